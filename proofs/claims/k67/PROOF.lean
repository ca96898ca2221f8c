import PyProof.Rows.All
import PySem.Str
import Wide.All
import OpenK.AllK
import Wide.FinOn
import PyProof.EqAt
import PyProof.EqKinds
import PyProof.TupleCall
import HandS.ForMost
import HandS.ForExc
import HandS.Wide
import HandS.WideBits
import HandS.CallSlots
import HandS.CallLocal
import HandS.IsInst
import HandS.TryMany
import HandS.ExcField
import HandS.Defaults
import HandS.NoneIn
import HandS.Flow
import HandS.Flt
import HandS.Lambda
import PyProof.LongRange
import PyProof.StrBlock2
import PyProof.Rows.StrMul
import KE.IntText
import HandS.Text
import KE.KIntText
import HandS.SortInts
import HandS.Style
import HandS.Comp
import HandS.Iter
import HandS.Codes
import HandS.ExcInit
import KE.KExcInit
import OpenK.KCls
import HandS.SetFor
import HandS.Set
import HandS.Strs
import PyProof.Rows.SortShellAny
import HandS.Conv
import KE.KRevSl
import HandS.Dict
import HandS.More
import KE.KExcIs
import KE.DataFind
import KE.DatumOrd
import KE.IntTextLaws
import PyProof.EnumMake
import PyProof.Draws
import PyProof.ListStr
import HandS.HeadHook3
import HandS.HeadEnd
import HandS.Head0
import HandS.Head1
import HandS.Head2
import HandS.HeadHook1
import HandS.HeadHook2
import HandS.HeadHook4
import HandS.HeadWalk
import PySem.Challenge.RW_farfloats_k67_texts_that_are_no_decimals
set_option Elab.async false
set_option linter.all false
set_option maxRecDepth 100000
namespace FF
/-! ### data -/
inductive D where
  | non
  | bl (b : Bool)
  | int (i : Int)
  | str (s : List Nat)
  | tup (l : List D)
  | lst (l : List D)
  | obj (c : Nat) (fs : List (Nat × D))
  | ref (a : Nat)
  | fn (n : Nat)
  | clo (n : Nat) (vs : List D)
  | odd (k : Nat)
  | map (ks : List (Int ⊕ List Nat)) (ds : List D)
inductive Cell where
  | lst (l : List D)
  | obj (c : Nat) (fs : List (Nat × D))
/-- what may be changed, by address -/
abbrev AH := Nat → Option Cell
def AH.put (h : AH) (a : Nat) (c : Cell) : AH := fun b => if b = a then some c else h b
theorem AH.put_same {h : AH} {a : Nat} {c : Cell} : h.put a c a = some c := if_pos rfl
theorem AH.put_ne {h : AH} {a b : Nat} {c : Cell} (e : b ≠ a) : h.put a c b = h b := if_neg e
def AH.Sub (h h' : AH) : Prop := ∀ a c, h a = some c → h' a = some c
theorem AH.Sub.refl (h : AH) : AH.Sub h h := fun _ _ e => e
theorem AH.Sub.trans {h h1 h2 : AH} (a : AH.Sub h h1) (b : AH.Sub h1 h2) : AH.Sub h h2 := fun c o e => b c o (a c o e)
inductive Slot where
  | un
  | val (d : D)
  | own (l : List D)
  | exc (c : Nat) (v : D)
abbrev Env := List Slot
def Env.at : Env → Nat → Slot
  | [], _ => .un
  | s :: _, 0 => s
  | _ :: r, n + 1 => Env.at r n
def Env.put : Env → Nat → Slot → Env
  | [], _, _ => []
  | _ :: r, 0, x => x :: r
  | s :: r, n + 1, x => s :: Env.put r n x
def Env.wipe (σ : Env) : List Nat → Env
  | [] => σ
  | v :: vs => (Env.wipe σ vs).put v .un
def Slot.nox : Slot → Slot
  | .un => .un
  | .val d => .val d
  | .own _ => .un
  | .exc _ _ => .un
def Env.nox : Env → Env
  | [] => []
  | s :: r => s.nox :: Env.nox r
def Slot.nex : Slot → Slot
  | .un => .un
  | .val d => .val d
  | .own l => .own l
  | .exc _ _ => .un
/-- no exceptions are told -/
def Env.nex : Env → Env
  | [] => []
  | s :: r => s.nex :: Env.nex r
/-! ### values -/
def SL : Nat := 16777216
/-- at most so deep, strings of code points -/
def D.pln : Nat → D → Bool
  | _, .non => true
  | _, .bl _ => true
  | _, .int _ => true
  | _, .str s => s.all (· < 1114112)
  | 0, _ => false
  | n + 1, .tup l => l.all (D.pln n)
  | n + 1, .lst l => l.all (D.pln n)
  | _, _ => false
mutual
def D.eqb : D → D → Bool
  | .non, .non => true
  | .bl a, .bl b => a == b
  | .bl a, .int j => (if a then 1 else 0) == j
  | .int i, .bl b => i == (if b then 1 else 0)
  | .int i, .int j => i == j
  | .str x, .str y => x == y
  | .lst xs, .lst ys => D.eqbs xs ys
  | .tup xs, .tup ys => D.eqbs xs ys
  | _, _ => false
def D.eqbs : List D → List D → Bool
  | [], [] => true
  | x :: xs, y :: ys => D.eqb x y && D.eqbs xs ys
  | _, _ => false
end
def bitsI (i : Int) : Nat := if i = 0 then 0 else i.natAbs.log2 + 1
def mulOk (i j : Int) : Prop := bitsI i + bitsI j ≤ 134217728 ∨ bitsI i ≤ 64 ∨ bitsI j ≤ 64
inductive BOp where | add | sub | mul | fdiv | mod | pow | shl | shr
inductive COp where | eq | ne | lt | le | gt | ge | is_ | isn | in_ | nin
inductive Ty where | int | bool | str | tup | lst | dict | obj (c : Nat)
def binI (op : BOp) (i j : Int) (K : D → Prop) : Prop :=
  match op with
  | .add => K (.int (i + j))
  | .sub => K (.int (i - j))
  | .mul => mulOk i j ∧ K (.int (i * j))
  | .fdiv => (j ≠ 0 ∧ bitsI j ≤ 9000) ∧ K (.int (i.fdiv j))
  | .mod => j ≠ 0 ∧ K (.int (i.fmod j))
  | .pow => (0 ≤ j ∧ j ≤ 1000000 ∧ i.natAbs < 2 ^ 64) ∧ K (.int (i ^ j.toNat))
  | .shl => (0 ≤ j ∧ (bitsI i : Int) + j ≤ 134217728) ∧ K (.int (i * 2 ^ j.toNat))
  | .shr => 0 ≤ j ∧ K (.int (i / 2 ^ j.toNat))
/-- decimal digits, and what they are worth -/
def digS (s : List Nat) : Bool := s.all fun c => decide (48 ≤ c ∧ c < 58)
def decN (s : List Nat) : Nat := s.foldl (fun a c => a * 10 + (c - 48)) 0
/-- an integer's text, and the integer that a text tells -/
def digN (n : Nat) : List Nat := (Nat.toDigits 10 n).map Char.toNat
def digZ (i : Int) : List Nat := if i < 0 then 45 :: digN i.natAbs else digN i.natAbs
def intZ : List Nat → Option Int
  | 45 :: r => if r ≠ [] ∧ digS r = true then some (-(decN r : Int)) else none
  | r => if r ≠ [] ∧ digS r = true then some (decN r) else none
/-- the signs of a text -/
def sgnD (s : List Nat) : List D := s.map fun c => .str [c]
def wBin (op : BOp) (x y : D) (K : D → Prop) : Prop :=
  match x, y with
  | .int i, .int j => binI op i j K
  | .lst a, .lst b => match op with
    | .add => (a.length + b.length ≤ SL) ∧ K (.lst (a ++ b))
    | _ => False
  | .lst a, .int k => match op with
    | .mul => (-1000000 < k ∧ k < 1000000 ∧ a.length * k.toNat ≤ SL) ∧ K (.lst ((List.replicate k.toNat a).flatten))
    | _ => False
  | .str a, .str b => match op with
    | .add => (a.length + b.length ≤ SL) ∧ K (.str (a ++ b))
    | _ => False
  | .str a, .int k => match op with
    | .mul => (0 ≤ k ∧ k ≤ 4000 ∧ a.length ≤ 4000) ∧ K (.str (List.replicate k.toNat a).flatten)
    | _ => False
  | .tup a, .tup b => match op with
    | .add => (a.length ≤ SL ∧ b.length ≤ SL ∧ a ≠ [] ∧ b ≠ [] ∧ a.length + b.length ≤ SL) ∧ K (.tup (a ++ b))
    | _ => False
  | _, _ => False
def cmpI (op : COp) (i j : Int) (K : Bool → Prop) : Prop :=
  match op with
  | .eq => K (decide (i = j))
  | .ne => K (!decide (i = j))
  | .lt => K (decide (i < j))
  | .le => K (decide (i ≤ j))
  | .gt => K (decide (j < i))
  | .ge => K (decide (j ≤ i))
  | _ => False
def eqOk (x y : D) : Prop := x.pln 60 = true ∧ y.pln 60 = true
/-- flat things, to be sought in a list -/
def D.flat : D → Bool
  | .non => true
  | .bl _ => true
  | .int _ => true
  | .str _ => true
  | _ => false
def D.isNon : D → Bool
  | .non => true
  | _ => false
def wCmp (op : COp) (x y : D) (K : Bool → Prop) : Prop :=
  match op with
  | .lt => match x, y with
    | .int i, .int j => K (decide (i < j))
    | _, _ => False
  | .le => match x, y with
    | .int i, .int j => K (decide (i ≤ j))
    | _, _ => False
  | .gt => match x, y with
    | .int i, .int j => K (decide (j < i))
    | _, _ => False
  | .ge => match x, y with
    | .int i, .int j => K (decide (j ≤ i))
    | _, _ => False
  | .eq => eqOk x y ∧ K (D.eqb x y)
  | .ne => eqOk x y ∧ K (!D.eqb x y)
  | .is_ => match y with
    | .non => K x.isNon
    | .bl b => match x with
      | .bl c => K (c == b)
      | _ => False
    | _ => False
  | .isn => match y with
    | .non => K (!x.isNon)
    | _ => False
  | .in_ => match y with
    | .lst l => (x.flat = true ∧ l.all D.flat = true) ∧ K (l.any (D.eqb x))
    | .tup l => (x.flat = true ∧ l.all D.flat = true) ∧ K (l.any (D.eqb x))
    | _ => False
  | .nin => match y with
    | .lst l => (x.flat = true ∧ l.all D.flat = true) ∧ K (!l.any (D.eqb x))
    | .tup l => (x.flat = true ∧ l.all D.flat = true) ∧ K (!l.any (D.eqb x))
    | _ => False
def isTy : Ty → D → Option Bool
  | .int, .int _ => some true
  | .int, .bl _ => some true
  | .int, .non => some false
  | .int, .odd _ => some false
  | .int, .str _ => some false
  | .int, .tup _ => some false
  | .int, .lst _ => some false
  | .bool, .bl _ => some true
  | .bool, .int _ => some false
  | .bool, .non => some false
  | .bool, .odd _ => some false
  | .bool, .str _ => some false
  | .bool, .tup _ => some false
  | .bool, .lst _ => some false
  | .tup, .tup _ => some true
  | .tup, .int _ => some false
  | .tup, .bl _ => some false
  | .tup, .non => some false
  | .tup, .odd _ => some false
  | .tup, .str _ => some false
  | .tup, .lst _ => some false
  | .lst, .lst _ => some true
  | .lst, .int _ => some false
  | .lst, .bl _ => some false
  | .lst, .non => some false
  | .lst, .odd _ => some false
  | .lst, .str _ => some false
  | .lst, .tup _ => some false
  | .str, .str _ => some true
  | .str, .int _ => some false
  | .str, .bl _ => some false
  | .str, .non => some false
  | .str, .odd _ => some false
  | .str, .lst _ => some false
  | .str, .tup _ => some false
  | .obj c, .obj c' _ => if c' = c then some true else none
  | .obj _, .int _ => some false
  | .obj _, .bl _ => some false
  | .obj _, .non => some false
  | .obj _, .odd _ => some false
  | .obj _, .str _ => some false
  | .obj _, .tup _ => some false
  | .obj _, .lst _ => some false
  | _, _ => none
/-- a list that may be read: a value, or what stands at an address -/
def asL (h : AH) : D → Option (List D)
  | .lst l => some l
  | .ref a => match h a with
    | some (.lst l) => some l
    | _ => none
  | _ => none
/-- a list beside an empty one -/
def lemW (neg : Bool) (h : AH) (x y : D) (K : D → Prop) : Prop := match asL h x, y with
  | some l, .lst [] => K (.bl (if neg then !l.isEmpty else l.isEmpty))
  | _, _ => False
/-- keys of a dict, and pairs of them with values -/
def keyD : D → Option (Int ⊕ List Nat)
  | .int i => some (.inl i)
  | .str s => some (.inr s)
  | _ => none
def pairsM : List D → Option (List (Int ⊕ List Nat) × List D)
  | [] => some ([], [])
  | .tup [k, d] :: r => match keyD k, pairsM r with
    | some x, some (ks, ds) => some (x :: ks, d :: ds)
    | _, _ => none
  | _ => none
def lookM (k : Int ⊕ List Nat) : List (Int ⊕ List Nat) → List D → Option D
  | x :: ks, d :: ds => if x = k then some d else lookM k ks ds
  | _, _ => none
def asLT (h : AH) : D → Option (List D)
  | .lst l => some l
  | .tup l => some l
  | .ref a => match h a with
    | some (.lst l) => some l
    | _ => none
  | _ => none
/-- the place of an index -/
def ixP (n : Nat) (i : Int) : Option Nat :=
  if 0 ≤ i then (if i < n then some i.toNat else none) else (if -(n : Int) ≤ i then some (i + n).toNat else none)
/-- where a slice's bound falls (step 1) -/
def slP (n : Nat) (i : Int) : Nat := if 0 ≤ i then min i.toNat n else (i + n).toNat
inductive Bi where | abs | int | len | max | min | sum | all | any | sorted | list | tuple | str | divmod
def intsOf : List D → Option (List Int)
  | [] => some []
  | .int i :: r => match intsOf r with
    | some l => some (i :: l)
    | none => none
  | _ => none
def boolsOf : List D → Option (List Bool)
  | [] => some []
  | .bl i :: r => match boolsOf r with
    | some l => some (i :: l)
    | none => none
  | _ => none
def pairsOf : List D → Option (List (Int × Int))
  | [] => some []
  | .tup [.int i, .int j] :: r => match pairsOf r with
    | some l => some ((i, j) :: l)
    | none => none
  | _ => none
def atInt (y : D) (K : Int → Prop) : Prop := match y with
  | .int k => K k
  | _ => False
def dUD : List (List Nat × List Nat) := [([100, 111, 119, 110], [117, 112]), ([117, 112], [100, 111, 119, 110])]
def maxL : List Int → Int
  | [] => 0
  | [x] => x
  | x :: r => max x (maxL r)
def minL : List Int → Int
  | [] => 0
  | [x] => x
  | x :: r => min x (minL r)
def wBi (b : Bi) (ds : List D) (h : AH) (K : D → Prop) : Prop :=
  match b with
  | .abs => match ds with
    | [.int i] => K (.int (i.natAbs : Int))
    | _ => False
  | .int => match ds with
    | [.int i] => K (.int i)
    | [.bl b] => K (.int (if b then 1 else 0))
    | [.str s] => (s ≠ [] ∧ s.length ≤ 640 ∧ digS s = true) ∧ K (.int (decN s))
    | [.str s, .int b] => (b = 10 ∧ s ≠ [] ∧ s.length ≤ 640 ∧ digS s = true) ∧ K (.int (decN s))
    | _ => False
  | .len => match ds with
    | [d] => match d with
      | .str s => s.length ≤ SL ∧ K (.int s.length)
      | d => match asLT h d with
        | some l => K (.int l.length)
        | none => False
    | _ => False
  | .max => match ds with
    | [.int i, .int j] => K (.int (max i j))
    | [.int i, .int j, .int k] => K (.int (max (max i j) k))
    | [d] => match asL h d with
      | some l => match intsOf l with
        | some ns => 0 < ns.length ∧ K (.int (maxL ns))
        | none => False
      | none => False
    | _ => False
  | .min => match ds with
    | [.int i, .int j] => K (.int (min i j))
    | [.int i, .int j, .int k] => K (.int (min (min i j) k))
    | [d] => match asL h d with
      | some l => match intsOf l with
        | some ns => 0 < ns.length ∧ K (.int (minL ns))
        | none => False
      | none => False
    | _ => False
  | .sum => match ds with
    | [d] => match asL h d with
      | some l => match intsOf l with
        | some ns => K (.int ns.sum)
        | none => False
      | none => False
    | _ => False
  | .all => match ds with
    | [d] => match asL h d with
      | some l => match boolsOf l with
        | some ns => K (.bl (ns.all id))
        | none => False
      | none => False
    | _ => False
  | .any => match ds with
    | [d] => match asL h d with
      | some l => match boolsOf l with
        | some ns => K (.bl (ns.any id))
        | none => False
      | none => False
    | _ => False
  | .sorted => match ds with
    | [d] => match asL h d with
      | some l => match intsOf l with
        | some ns => ∀ ns' : List Int, ns'.Perm ns → ns'.Pairwise (· ≤ ·) → K (.lst (ns'.map .int))
        | none => False
      | none => False
    | _ => False
  | .list => match ds with
    | [d] => match asLT h d with
      | some l => K (.lst l)
      | none => False
    | _ => False
  | .tuple => match ds with
    | [d] => match asL h d with
      | some l => K (.tup l)
      | none => False
    | _ => False
  | .divmod => match ds with
    | [.int i, .int j] => (0 < j ∧ bitsI j ≤ 9000) ∧ K (.tup [.int (i / j), .int (i % j)])
    | _ => False
  | _ => False
/-! ### the text -/
mutual
inductive E where
  | var (i : Nat)
  | int (i : Int)
  | bl (b : Bool)
  | non
  | str (s : List Nat)
  | gcon (g : Nat) (d : D)
  | dct
  | gfn (n : Nat)
  | bin (op : BOp) (a b : E)
  | neg (a : E)
  | not (a : E)
  | ands (es : Es)
  | ors (es : Es)
  | cmp (op : COp) (a b : E)
  | chain (o1 o2 : COp) (a b c : E)
  | ite (c a b : E)
  | tup (es : Es)
  | lst (es : Es)
  | refl (es : Es)
  | call (f : Nat) (es : Es) (dv : List D)
  | callk (f : Nat) (es ks : Es) (perm : List Nat)
  | callv (i : Nat) (es : Es)
  /-- f(lambda: e) -/
  | lamc (f : Nat) (e : E)
  /-- the call of what was given -/
  | act (i : Nat)
  | meth (f c : Nat) (o : E) (es : Es) (dv : List D)
  | make (f c : Nat) (es : Es) (frz : Bool)
  | bi (b : Bi) (es : Es)
  | isin (e : E) (t : Ty)
  | bits (o : E)
  | count (o e : E)
  | fld (o : E) (f : Nat)
  | xfld (i : Nat) (cs : List Nat)
  | idx (o i : E)
  | oidx (i : Nat) (e : E)
  | olen (i : Nat)
  | slTo (o b : E)
  | slFrom (o a : E)
  | slOf (o a b : E)
  | slRev (o : E)
  /-- o[-2::-1], o of at most three -/
  | slRev2 (o : E)
  /-- o[:0:-1] -/
  | slRevTo (o : E)
  /-- sorted(set(a)) -/
  | sset (a : E)
  /-- {..}.get(k, d) -/
  | dget (ps : List (List Nat × List Nat)) (k d : E)
  /-- k in G, k not in G, G a dict of the module -/
  | gdin (g : Nat) (ps : List (List Nat × D)) (neg : Bool) (k : E)
  | gdidx (g : Nat) (ps : List (List Nat × D)) (k : E)
  | gdget (g : Nat) (ps : List (List Nat × D)) (k : E)
  /-- isinstance of what was caught -/
  | isx (i c : Nat)
  | isxA (i : Nat)
  /-- o.count(True) -/
  | cntB (o : E)
  /-- {"down": "up", "up": "down"} -/
  | dctM
  /-- dict(pairs) -/
  | dictP (e : E)
  | midx (o k : E)
  /-- texts: s[i], s[a:b], s[a:], s[:b], c in s, str(i), int(s) -/
  | sidx (o i : E)
  | ssl (o a b : E)
  | sslF (o a : E)
  | sslT (o b : E)
  | sin (a o : E)
  | strI (e : E)
  | intt (e : E)
  /-- list(text) -/
  | listS (e : E)
  /-- {..}.get(k), {..}.get(k, d), keys texts -/
  | dgetN (ps : List (List Nat × D)) (k : E)
  | dgetD (ps : List (List Nat × D)) (k d : E)
  /-- x.get(y, z) of such a dict -/
  | vget (i j k : Nat)
  /-- what e tells is called -/
  | calle (e : E) (es : Es)
  /-- o.index(e), of integers -/
  | lidx (o e : E)
  /-- max of pairs of integers -/
  | maxP (e : E)
  /-- o[::e], e 1 or -1 -/
  | slStep (o e : E)
  /-- list(range(b)), list(range(a, b)) -/
  | lrng1 (b : E)
  /-- list(range(b)), changed later on -/
  | rrng1 (b : E)
  | lrng2 (a b : E)
  /-- own == [] -/
  | oemp (i : Nat)
  /-- e == [], e != [] -/
  | lemp (neg : Bool) (e : E)
  | comp (t : Tg) (it : It) (c : Es) (e : E) (own : List Nat)
inductive Es where
  | nil
  | cons (e : E) (es : Es)
inductive It where
  | seq (e : E)
  | rng1 (b : E)
  | rng2 (a b : E)
  | rng3 (a b c : E)
  | zip (a b : E)
  | enum (e : E)
  /-- the signs of a text, with their places or without -/
  | enumS (e : E)
  | sgn (e : E)
inductive Tg where
  | name (i : Nat)
  | tup (ts : Tgs)
inductive Tgs where
  | nil
  | cons (t : Tg) (ts : Tgs)
end
mutual
inductive S where
  | set (i : Nat) (e : E)
  | setC (i : Nat) (e : E)
  /-- a comprehension whose list is changed later on -/
  | setCR (i : Nat) (e : E)
  | set2 (i j : Nat) (e : E)
  | setOwn (i : Nat) (e : E)
  | setT (ts : Tgs) (e : E)
  | setP (i j : Nat) (a b : E)
  | setP3 (i j k : Nat) (a b c : E)
  /-- x, y = a, [..]: the second one an own list -/
  | setPO (i j : Nat) (a : E) (es : Es)
  | setFld (c : Nat) (o : E) (f : Nat) (e : E)
  | setIdx (o i e : E)
  | expr (e : E)
  | app (i : Nat) (e : E)
  | ext (i : Nat) (e : E)
  /-- a list that others see, too -/
  | appR (i : Nat) (e : E)
  | extR (i : Nat) (e : E)
  /-- o.append(e) -/
  | appE (o e : E)
  | ret (e : E)
  | retN
  | ite (c : E) (a b : Ss)
  | whl (c : E) (b : Ss)
  | for_ (t : Tg) (it : It) (b : Ss)
  | try_ (b : Ss) (hs : Hs)
  | raise (c : Nat) (e : E)
  | never
  | pass
  | cont
  | frz (i : Nat)
  /-- a list seen by its address is changed no more -/
  | frzR (i : Nat)
inductive Ss where
  | nil
  | cons (s : S) (r : Ss)
inductive Hs where
  | nil
  | cons (c : Nat) (n : Option Nat) (b : Ss) (r : Hs)
end
/-! ### what must hold -/
structure Exc where
  c : Nat
  v : D
abbrev QE := D → AH → Prop
abbrev RE := Exc → AH → Prop
abbrev Spec := List D → AH → QE → RE → Prop
/-- the defs by number; a class below another -/
structure Gam where
  fn : Nat → Spec
  clo : Nat → List D → Spec
  sub : Nat → Nat → Option Bool
  /-- a def that is given a call, by what the call does -/
  hf : Nat → (AH → QE → RE → Prop) → AH → QE → RE → Prop := fun _ _ _ _ _ => False
  /-- what was given, where it stands -/
  act : AH → QE → RE → Prop := fun _ _ _ => False
  actA : Nat := 0
  /-- defs that may be handed on as values and called -/
  cvs : Nat → Prop := fun _ => False
/-- within a def that was given a call -/
def Gam.given (Γ : Gam) (a : Nat) (act : AH → QE → RE → Prop) : Gam := { Γ with act := act, actA := a }
mutual
def bindT : Tg → D → Env → (Env → Prop) → Prop
  | .name i, d, σ, K => K (σ.put i (.val d))
  | .tup ts, d, σ, K => match d with
    | .tup l => bindTs ts l σ K
    | .lst l => bindTs ts l σ K
    | _ => False
def bindTs : Tgs → List D → Env → (Env → Prop) → Prop
  | .nil, l, σ, K => match l with
    | [] => K σ
    | _ => False
  | .cons t ts, l, σ, K => match l with
    | d :: r => bindT t d σ (fun σ' => bindTs ts r σ' K)
    | [] => False
end
def loopC (step : D → AH → (Option D → AH → Prop) → Prop) : List D → List D → AH → (List D → AH → Prop) → Prop
  | [], acc, h, K => K acc h
  | d :: r, acc, h, K => step d h (fun o h' => match o with
    | some y => acc.length < SL ∧ loopC step r (acc ++ [y]) h' K
    | none => loopC step r acc h' K)
def rangeL (a : Int) (n : Nat) : List D := (List.range n).map fun (i : Nat) => .int (a + i)
def rangeC (a : Int) (n : Nat) (c : Int) : List D := (List.range n).map fun (i : Nat) => .int (a + i * c)
def rngN (a b c : Int) : Nat := if 0 < c then ((b - a + c - 1) / c).toNat else ((a - b + (-c) - 1) / (-c)).toNat
/-- ranges of integers of any size are walked; nothing is asked -/
def okR (i : Int) : Prop := i = i ∧ i = i
def okR3 (i : Int) : Prop := -(2 ^ 62) ≤ i ∧ i < 2 ^ 62
def zipD (a b : List D) : List D := List.zipWith (fun x y => .tup [x, y]) a b
def enumD (l : List D) : List D := List.zipWith (fun (i : Nat) y => .tup [.int i, y]) (List.range l.length) l
def permD (p : List Nat) (l : List D) : List D := p.filterMap (l[·]?)
def D.asObj (h : AH) : D → Option (Nat × List (Nat × D))
  | .obj c fs => some (c, fs)
  | .ref a => match h a with
    | some (.obj c fs) => some (c, fs)
    | _ => none
  | _ => none
def getF (f : Nat) : List (Nat × D) → Option D
  | [] => none
  | (g, d) :: r => if g = f then some d else getF f r
def putF (f : Nat) (d : D) : List (Nat × D) → List (Nat × D)
  | [] => [(f, d)]
  | (g, e) :: r => if g = f then (g, d) :: r else (g, e) :: putF f d r
mutual
def wpE (Γ : Gam) : E → Env → AH → QE → RE → Prop
  | .var i, σ, h, Q, _ => match σ.at i with
    | .val d => Q d h
    | _ => False
  | .int i, _, h, Q, _ => Q (.int i) h
  | .bl b, _, h, Q, _ => Q (.bl b) h
  | .non, _, h, Q, _ => Q .non h
  | .str s, _, h, Q, _ => Q (.str s) h
  | .gcon _ d, _, h, Q, _ => Q d h
  | .dct, _, h, Q, _ => Q (.odd 0) h
  | .gfn n, _, h, Q, _ => Q (.fn n) h
  | .bin op a b, σ, h, Q, R => wpE Γ a σ h (fun x h => wpE Γ b σ h (fun y h => wBin op x y fun z => Q z h) R) R
  | .neg a, σ, h, Q, R => wpE Γ a σ h (fun x h => match x with
    | .int i => Q (.int (-i)) h
    | _ => False) R
  | .not a, σ, h, Q, R => wpE Γ a σ h (fun x h => match x with
    | .bl b => Q (.bl (!b)) h
    | _ => False) R
  | .ands es, σ, h, Q, R => wpAnd Γ es σ h Q R
  | .ors es, σ, h, Q, R => wpOr Γ es σ h Q R
  | .cmp op a b, σ, h, Q, R => wpE Γ a σ h (fun x h => wpE Γ b σ h (fun y h => wCmp op x y fun k => Q (.bl k) h) R) R
  | .chain o1 o2 a b c, σ, h, Q, R => wpE Γ a σ h (fun x h => wpE Γ b σ h (fun y h => wCmp o1 x y fun k => if k = true then wpE Γ c σ h (fun z h => wCmp o2 y z fun k => Q (.bl k) h) R else Q (.bl false) h) R) R
  | .ite c a b, σ, h, Q, R => wpE Γ c σ h (fun x h => match x with
    | .bl k => if k = true then wpE Γ a σ h Q R else wpE Γ b σ h Q R
    | _ => False) R
  | .tup es, σ, h, Q, R => wpEs Γ es σ h (fun ds h => ds.length ≤ SL ∧ Q (.tup ds) h) R
  | .lst es, σ, h, Q, R => wpEs Γ es σ h (fun ds h => ds.length ≤ SL ∧ Q (.lst ds) h) R
  | .refl es, σ, h, Q, R => wpEs Γ es σ h (fun ds h => ds.length ≤ SL ∧ ∀ a, h a = none → Q (.ref a) (h.put a (.lst ds))) R
  | .call f es dv, σ, h, Q, R => wpEs Γ es σ h (fun ds h => Γ.fn f (ds ++ dv) h Q R) R
  | .callk f es ks p, σ, h, Q, R => wpEs Γ es σ h (fun ds h => wpEs Γ ks σ h (fun es h => Γ.fn f (permD p (ds ++ es)) h Q R) R) R
  | .callv i es, σ, h, Q, R => match σ.at i with
    | .val (.fn n) => Γ.cvs n ∧ wpEs Γ es σ h (fun ds h => Γ.fn n ds h Q R) R
    | .val (.clo n vs) => wpEs Γ es σ h (fun ds h => Γ.clo n vs ds h Q R) R
    | _ => False
  | .lamc f e, σ, h, Q, R => Γ.hf f (fun h Q R => wpE Γ e σ.nox h Q R) h Q R
  | .act i, σ, h, Q, R => match σ.at i with
    | .val (.ref a) => a = Γ.actA ∧ Γ.act h Q R
    | _ => False
  | .meth f c o es dv, σ, h, Q, R => wpE Γ o σ h (fun x h => match x.asObj h with
    | some (c', _) => c' = c ∧ wpEs Γ es σ h (fun ds h => Γ.fn f (x :: (ds ++ dv)) h Q R) R
    | none => False) R
  | .make f c es fz, σ, h, Q, R => wpEs Γ es σ h (fun ds h => ∀ a, h a = none → Γ.fn f (.ref a :: ds) (h.put a (.obj c [])) (fun d h' => match d with
    | .non => match fz with
      | true => ∃ fs, h' a = some (.obj c fs) ∧ Q (.obj c fs) (fun b => if b = a then none else h' b)
      | false => Q (.ref a) h'
    | _ => False) R) R
  | .bi b es, σ, h, Q, R => wpEs Γ es σ h (fun ds h => wBi b ds h fun d => Q d h) R
  | .isin e t, σ, h, Q, R => wpE Γ e σ h (fun x h => match isTy t x with
    | some b => Q (.bl b) h
    | none => False) R
  | .bits o, σ, h, Q, R => wpE Γ o σ h (fun x h => match x with
    | .int i => Q (.int (bitsI i : Nat)) h
    | _ => False) R
  | .count o e, σ, h, Q, R => wpE Γ o σ h (fun x h => wpE Γ e σ h (fun y h => match asL h x, y with
    | some l, .int k => match intsOf l with
      | some ns => Q (.int (ns.count k : Nat)) h
      | none => False
    | _, _ => False) R) R
  | .fld o f, σ, h, Q, R => wpE Γ o σ h (fun x h => match x.asObj h with
    | some (_, fs) => match getF f fs with
      | some d => Q d h
      | none => False
    | none => False) R
  | .xfld i cs, σ, h, Q, _ => match σ.at i with
    | .exc c d => c ∈ cs ∧ Q d h
    | _ => False
  | .idx o i, σ, h, Q, R => wpE Γ o σ h (fun x h => wpE Γ i σ h (fun y h => match y with
    | .int k => match asLT h x with
      | some l => match ixP l.length k with
        | some j => match l[j]? with
          | some d => Q d h
          | none => False
        | none => False
      | none => False
    | _ => False) R) R
  | .oidx i e, σ, h, Q, R => match σ.at i with
    | .own l => wpE Γ e σ h (fun y h => match y with
      | .int k => match ixP l.length k with
        | some j => match l[j]? with
          | some d => Q d h
          | none => False
        | none => False
      | _ => False) R
    | _ => False
  | .olen i, σ, h, Q, _ => match σ.at i with
    | .own l => Q (.int l.length) h
    | _ => False
  | .slTo o b, σ, h, Q, R => wpE Γ o σ h (fun x h => wpE Γ b σ h (fun y h => match y with
    | .int k => match asL h x with
      | some l => Q (.lst (l.take (slP l.length k))) h
      | none => match x with
        | .tup l => slP l.length k ≠ l.length ∧ Q (.tup (l.take (slP l.length k))) h
        | _ => False
    | _ => False) R) R
  | .slFrom o a, σ, h, Q, R => wpE Γ o σ h (fun x h => wpE Γ a σ h (fun y h => match y with
    | .int k => match asL h x with
      | some l => Q (.lst (l.drop (slP l.length k))) h
      | none => match x with
        | .tup l => slP l.length k ≠ 0 ∧ Q (.tup (l.drop (slP l.length k))) h
        | _ => False
    | _ => False) R) R
  | .slOf o a b, σ, h, Q, R => wpE Γ o σ h (fun x h => wpE Γ a σ h (fun y h => match y with
    | .int k => wpE Γ b σ h (fun z h => match z with
      | .int m => match asL h x with
        | some l => Q (.lst ((l.take (slP l.length m)).drop (slP l.length k))) h
        | none => False
      | _ => False) R
    | _ => False) R) R
  | .slRev o, σ, h, Q, R => wpE Γ o σ h (fun x h => match asL h x with
    | some l => Q (.lst l.reverse) h
    | none => False) R
  | .slRev2 o, σ, h, Q, R => wpE Γ o σ h (fun x h => match asL h x with
    | some l => l.length ≤ 3 ∧ Q (.lst l.dropLast.reverse) h
    | none => False) R
  | .slRevTo o, σ, h, Q, R => wpE Γ o σ h (fun x h => match asL h x with
    | some l => Q (.lst (l.drop 1).reverse) h
    | none => False) R
  | .sset a, σ, h, Q, R => wpE Γ a σ h (fun x h => match asL h x with
    | some l => match intsOf l with
      | some ns => ns.length < 2000 ∧ ∀ ms : List Int, ms.Pairwise (· < ·) → (∀ k, k ∈ ms ↔ k ∈ ns) → Q (.lst (ms.map .int)) h
      | none => False
    | none => False) R
  | .dget ps k d, σ, h, Q, R => wpE Γ k σ h (fun x h => wpE Γ d σ h (fun y h => match x with
    | .str s => Q (match ps.lookup s with | some t => .str t | none => y) h
    | _ => False) R) R
  | .gdin _ ps neg k, σ, h, Q, R => wpE Γ k σ h (fun x h => match x with
    | .str s => (∃ d, ps.lookup s = some d) ∧ Q (.bl (!neg)) h
    | _ => False) R
  | .gdidx _ ps k, σ, h, Q, R => wpE Γ k σ h (fun x h => match x with
    | .str s => match ps.lookup s with
      | some d => Q d h
      | none => False
    | _ => False) R
  | .gdget _ ps k, σ, h, Q, R => wpE Γ k σ h (fun x h => match x with
    | .str s => Q (match ps.lookup s with | some d => d | none => .non) h
    | _ => False) R
  | .isx i c, σ, h, Q, _ => match σ.at i with
    | .exc c' _ => match Γ.sub c' c with
      | some b => Q (.bl b) h
      | none => False
    | _ => False
  | .isxA i, σ, h, Q, _ => match σ.at i with
    | .exc c' _ => (∃ c b, Γ.sub c' c = some b) ∧ Q (.bl true) h
    | _ => False
  | .cntB o, σ, h, Q, R => wpE Γ o σ h (fun x h => match asL h x with
    | some l => match boolsOf l with
      | some bs => Q (.int (bs.count true : Nat)) h
      | none => False
    | none => False) R
  | .dctM, _, h, Q, _ => Q (.odd 1) h
  | .dictP e, σ, h, Q, R => wpE Γ e σ h (fun x h => match asL h x with
    | some l => match pairsM l with
      | some kd => kd.1.Nodup ∧ Q (.map kd.1 kd.2) h
      | none => False
    | none => False) R
  | .sidx o i, σ, h, Q, R => wpE Γ o σ h (fun x h => wpE Γ i σ h (fun y h => match x with
    | .str s => match y with
      | .int k => (0 ≤ k ∧ k < s.length ∧ s.length ≤ SL) ∧ Q (.str [s.getD k.toNat 0]) h
      | _ => False
    | _ => False) R) R
  | .ssl o a b, σ, h, Q, R => wpE Γ o σ h (fun x h => wpE Γ a σ h (fun y h => match y with
    | .int i => wpE Γ b σ h (fun z h => match x with
      | .str s => match z with
        | .int j => s.length ≤ SL ∧ Q (.str ((s.drop (slP s.length i)).take (slP s.length j - slP s.length i))) h
        | _ => False
      | _ => False) R
    | _ => False) R) R
  | .sslF o a, σ, h, Q, R => wpE Γ o σ h (fun x h => wpE Γ a σ h (fun y h => match x with
    | .str s => match y with
      | .int i => s.length ≤ SL ∧ Q (.str (s.drop (slP s.length i))) h
      | _ => False
    | _ => False) R) R
  | .sslT o b, σ, h, Q, R => wpE Γ o σ h (fun x h => wpE Γ b σ h (fun y h => match x with
    | .str s => match y with
      | .int j => s.length ≤ SL ∧ Q (.str (s.take (slP s.length j))) h
      | _ => False
    | _ => False) R) R
  | .sin a o, σ, h, Q, R => wpE Γ a σ h (fun x h => wpE Γ o σ h (fun y h => match y with
    | .str s => match x with
      | .str [c] => Q (.bl (decide (c ∈ s))) h
      | _ => False
    | _ => False) R) R
  | .strI e, σ, h, Q, R => wpE Γ e σ h (fun x h => match x with
    | .int i => i.natAbs.log2 < 1920 ∧ Q (.str (digZ i)) h
    | _ => False) R
  | .intt e, σ, h, Q, R => wpE Γ e σ h (fun x h => match x with
    | .str s => match intZ s with
      | some n => s.length ≤ 640 ∧ Q (.int n) h
      | none => False
    | _ => False) R
  | .listS e, σ, h, Q, R => wpE Γ e σ h (fun x h => match x with
    | .str s => s.length ≤ SL ∧ Q (.lst (sgnD s)) h
    | _ => False) R
  | .dgetN ps k, σ, h, Q, R => wpE Γ k σ h (fun x h => match x with
    | .str s => Q ((ps.lookup s).getD .non) h
    | _ => False) R
  | .dgetD ps k d, σ, h, Q, R => wpE Γ k σ h (fun x h => wpE Γ d σ h (fun y h => match x with
    | .str s => Q ((ps.lookup s).getD y) h
    | _ => False) R) R
  | .midx o k, σ, h, Q, R => wpE Γ o σ h (fun x h => wpE Γ k σ h (fun y h => match x with
    | .map ks ds => match keyD y with
      | some z => match lookM z ks ds with
        | some d => Q d h
        | none => False
      | none => False
    | _ => False) R) R
  | .vget i j k, σ, h, Q, _ => σ.at i = .val (.odd 1) ∧ match σ.at j with
    | .val d => match σ.at k with
      | .val e => match d with
        | .str s => Q (match dUD.lookup s with | some t => .str t | none => e) h
        | _ => False
      | _ => False
    | _ => False
  | .calle e es, σ, h, Q, R => wpE Γ e σ h (fun x h => match x with
    | .fn n => Γ.cvs n ∧ wpEs Γ es σ h (fun ds h => Γ.fn n ds h Q R) R
    | _ => False) R
  | .lidx o e, σ, h, Q, R => wpE Γ o σ h (fun x h => (∃ l, asL h x = some l) ∧ wpE Γ e σ h (fun y h => match asL h x with
    | some l => match intsOf l with
      | some ns => atInt y fun k => k ∈ ns ∧ Q (.int (ns.idxOf k : Nat)) h
      | none => False
    | none => False) R) R
  | .maxP e, σ, h, Q, R => wpE Γ e σ h (fun x h => match asL h x with
    | some l => match pairsOf l with
      | some ps => ps ≠ [] ∧ ∀ m ∈ ps, (∀ y ∈ ps, y.1 < m.1 ∨ (y.1 = m.1 ∧ y.2 ≤ m.2)) → Q (.tup [.int m.1, .int m.2]) h
      | none => False
    | none => False) R
  | .slStep o e, σ, h, Q, R => wpE Γ o σ h (fun x h => wpE Γ e σ h (fun y h => match asL h x with
    | some l => atInt y fun k => (k = 1 ∧ Q (.lst l) h) ∨ (k = -1 ∧ Q (.lst l.reverse) h)
    | none => False) R) R
  | .rrng1 b, σ, h, Q, R => wpE Γ b σ h (fun x h => match x with
    | .int j => (-(2 ^ 62) ≤ j ∧ j ≤ SL) ∧ ∀ a, h a = none → Q (.ref a) (h.put a (.lst (rangeL 0 j.toNat)))
    | _ => False) R
  | .lrng1 b, σ, h, Q, R => wpE Γ b σ h (fun x h => match x with
    | .int j => (-(2 ^ 62) ≤ j ∧ j ≤ SL) ∧ Q (.lst (rangeL 0 j.toNat)) h
    | _ => False) R
  | .lrng2 a b, σ, h, Q, R => wpE Γ a σ h (fun x h => wpE Γ b σ h (fun y h => match x, y with
    | .int i, .int j => (okR3 i ∧ okR3 j ∧ j - i ≤ SL) ∧ Q (.lst (rangeL i (j - i).toNat)) h
    | _, _ => False) R) R
  | .oemp i, σ, h, Q, _ => match σ.at i with
    | .own l => Q (.bl l.isEmpty) h
    | _ => False
  | .lemp neg e, σ, h, Q, R => wpE Γ e σ h (fun x h => ([] : List D).length ≤ SL ∧ lemW neg h x (.lst []) fun d => Q d h) R
  | .comp t it c e own, σ, h, Q, R => wpI Γ it σ h (fun ds h => loopC (fun d h K => bindT t d (σ.nox.wipe own) fun σ' => wpT Γ c σ' h (fun k h => if k = true then wpE Γ e σ' h (fun y h => K (some y) h) (fun _ _ => False) else K none h)) ds [] h fun l h => Q (.lst l) h) R
/-- the tests of a comprehension: none, or one -/
def wpT (Γ : Gam) : Es → Env → AH → (Bool → AH → Prop) → Prop
  | .nil, _, h, K => K true h
  | .cons e r, σ, h, K => wpE Γ e σ h (fun x h => match x with
    | .bl k => match r with
      | .nil => K k h
      | .cons _ _ => False
    | _ => False) (fun _ _ => False)
def wpEs (Γ : Gam) : Es → Env → AH → (List D → AH → Prop) → RE → Prop
  | .nil, _, h, Q, _ => Q [] h
  | .cons e r, σ, h, Q, R => wpE Γ e σ h (fun x h => wpEs Γ r σ h (fun xs h => Q (x :: xs) h) R) R
def wpAnd (Γ : Gam) : Es → Env → AH → QE → RE → Prop
  | .nil, _, _, _, _ => False
  | .cons e r, σ, h, Q, R => match r with
    | .nil => wpE Γ e σ h Q R
    | .cons _ _ => wpE Γ e σ h (fun x h => match x with
      | .bl k => if k = true then wpAnd Γ r σ h Q R else Q (.bl false) h
      | _ => False) R
def wpOr (Γ : Gam) : Es → Env → AH → QE → RE → Prop
  | .nil, _, _, _, _ => False
  | .cons e r, σ, h, Q, R => match r with
    | .nil => wpE Γ e σ h Q R
    | .cons _ _ => wpE Γ e σ h (fun x h => match x with
      | .bl k => if k = true then Q (.bl true) h else wpOr Γ r σ h Q R
      | _ => False) R
def wpI (Γ : Gam) : It → Env → AH → (List D → AH → Prop) → RE → Prop
  | .seq e, σ, h, K, R => wpE Γ e σ h (fun x h => match x with
    | .lst l => K l h
    | .tup l => K l h
    | _ => False) R
  | .rng1 b, σ, h, K, R => wpE Γ b σ h (fun x h => match x with
    | .int j => okR j ∧ K (rangeL 0 j.toNat) h
    | _ => False) R
  | .rng2 a b, σ, h, K, R => wpE Γ a σ h (fun x h => wpE Γ b σ h (fun y h => match x, y with
    | .int i, .int j => okR i ∧ okR j ∧ K (rangeL i (j - i).toNat) h
    | _, _ => False) R) R
  | .rng3 a b c, σ, h, K, R => wpE Γ a σ h (fun x h => wpE Γ b σ h (fun y h => wpE Γ c σ h (fun z h => match x, y, z with
    | .int i, .int j, .int k => okR3 i ∧ okR3 j ∧ k ≠ 0 ∧ k.natAbs < 1000000 ∧ K (rangeC i (rngN i j k) k) h
    | _, _, _ => False) R) R) R
  | .zip a b, σ, h, K, R => wpE Γ a σ h (fun x h => wpE Γ b σ h (fun y h => match x, y with
    | .lst l, .lst m => K (zipD l m) h
    | _, _ => False) R) R
  | .enum e, σ, h, K, R => wpE Γ e σ h (fun x h => match x with
    | .lst l => K (enumD l) h
    | _ => False) R
  | .enumS e, σ, h, K, R => wpE Γ e σ h (fun x h => match x with
    | .str s => K (enumD (sgnD s)) h
    | _ => False) R
  | .sgn e, σ, h, K, R => wpE Γ e σ h (fun x h => match x with
    | .str s => K (sgnD s) h
    | _ => False) R
end
structure Post where
  nx : Env → AH → Prop
  rt : D → AH → Prop
  ct : Env → AH → Prop
  R : Exc → Env → AH → Prop
def forL (body : Env → AH → Post → Prop) (bind : D → Env → (Env → Prop) → Prop) : List D → Env → AH → Post → Prop
  | [], σ, h, P => P.nx σ h
  | d :: r, σ, h, P => bind d σ fun σ' => body σ' h { P with nx := fun σ h => forL body bind r σ h P, ct := fun σ h => forL body bind r σ h P }
/-- expressions that make a new list -/
def wpF (Γ : Gam) (e : E) (σ : Env) (h : AH) (K : List D → AH → Prop) (R : RE) : Prop :=
  match e with
  | .lst es => wpEs Γ es σ h (fun ds h => ds.length ≤ SL ∧ K ds h) R
  | .bin .add a b => wpE Γ a σ h (fun x h => wpE Γ b σ h (fun y h => match x, y with
    | .lst l, .lst m => l.length + m.length ≤ SL ∧ K (l ++ m) h
    | _, _ => False) R) R
  | _ => False
mutual
def wpS (Γ : Gam) : S → Env → AH → Post → Prop
  | .set i e, σ, h, P => wpE Γ e σ h (fun d h => P.nx (σ.put i (.val d)) h) (fun x h => P.R x σ h)
  | .setC i e, σ, h, P => wpE Γ e σ h (fun d h => P.nx (σ.put i (.val d)) h) (fun x h => P.R x σ h)
  | .setCR i e, σ, h, P => wpE Γ e σ h (fun d h => match d with
    | .lst l => ∀ a, h a = none → P.nx (σ.put i (.val (.ref a))) (h.put a (.lst l))
    | _ => False) (fun x h => P.R x σ h)
  | .set2 i j e, σ, h, P => wpE Γ e σ h (fun d h => P.nx ((σ.put i (.val d)).put j (.val d)) h) (fun x h => P.R x σ h)
  | .setOwn i e, σ, h, P => wpF Γ e σ h (fun ds h => P.nx (σ.put i (.own ds)) h) (fun x h => P.R x σ h)
  | .setT ts e, σ, h, P => wpE Γ e σ h (fun d h => match d with
    | .tup l => bindTs ts l σ (fun σ' => P.nx σ' h)
    | .lst l => bindTs ts l σ (fun σ' => P.nx σ' h)
    | _ => False) (fun x h => P.R x σ h)
  | .setP i j a b, σ, h, P => wpE Γ a σ h (fun x h => wpE Γ b σ h (fun y h => P.nx ((σ.put i (.val x)).put j (.val y)) h) (fun x h => P.R x σ h)) (fun x h => P.R x σ h)
  | .setPO i j a es, σ, h, P => wpE Γ a σ h (fun x h => wpF Γ (.lst es) σ h (fun ds h => P.nx ((σ.put i (.val x)).put j (.own ds)) h) (fun x h => P.R x σ h)) (fun x h => P.R x σ h)
  | .setP3 i j k a b c, σ, h, P => wpE Γ a σ h (fun x h => wpE Γ b σ h (fun y h => wpE Γ c σ h (fun z h => P.nx (((σ.put i (.val x)).put j (.val y)).put k (.val z)) h) (fun x h => P.R x σ h)) (fun x h => P.R x σ h)) (fun x h => P.R x σ h)
  | .setFld c o f e, σ, h, P => wpE Γ e σ h (fun d h => wpE Γ o σ h (fun x h => match x with
    | .ref a => match h a with
      | some (.obj c' fs) => (c' = c ∧ fs.length < 1000) ∧ P.nx σ (h.put a (.obj c (putF f d fs)))
      | _ => False
    | _ => False) (fun x h => P.R x σ h)) (fun x h => P.R x σ h)
  | .setIdx o i e, σ, h, P => wpE Γ e σ h (fun d h => wpE Γ o σ h (fun x h => wpE Γ i σ h (fun y h => match x, y with
    | .ref a, .int k => match h a with
      | some (.lst l) => match ixP l.length k with
        | some j => P.nx σ (h.put a (.lst (l.set j d)))
        | none => False
      | _ => False
    | _, _ => False) (fun x h => P.R x σ h)) (fun x h => P.R x σ h)) (fun x h => P.R x σ h)
  | .expr e, σ, h, P => wpE Γ e σ h (fun _ h => P.nx σ h) (fun x h => P.R x σ h)
  | .app i e, σ, h, P => match σ.at i with
    | .own l => wpE Γ e σ h (fun d h => l.length < SL ∧ P.nx (σ.put i (.own (l ++ [d]))) h) (fun x h => P.R x σ h)
    | _ => False
  | .ext i e, σ, h, P => match σ.at i with
    | .own l => wpE Γ e σ h (fun d h => match d with
      | .lst m => l.length + m.length ≤ SL ∧ P.nx (σ.put i (.own (l ++ m))) h
      | _ => False) (fun x h => P.R x σ h)
    | _ => False
  | .appR i e, σ, h, P => match σ.at i with
    | .val (.ref a) => (∃ l, h a = some (.lst l)) ∧ wpE Γ e σ h (fun d h => match h a with
      | some (.lst l) => l.length < SL ∧ P.nx σ (h.put a (.lst (l ++ [d])))
      | _ => False) (fun x h => P.R x σ h)
    | _ => False
  | .extR i e, σ, h, P => match σ.at i with
    | .val (.ref a) => (∃ l, h a = some (.lst l)) ∧ wpE Γ e σ h (fun d h => match h a with
      | some (.lst l) => (match d with
        | .lst m => l.length + m.length ≤ SL ∧ P.nx σ (h.put a (.lst (l ++ m)))
        | _ => False)
      | _ => False) (fun x h => P.R x σ h)
    | _ => False
  | .appE o e, σ, h, P => wpE Γ o σ h (fun x h => match x with
    | .ref a => (∃ l, h a = some (.lst l)) ∧ wpE Γ e σ h (fun d h => match h a with
      | some (.lst l) => l.length < SL ∧ P.nx σ (h.put a (.lst (l ++ [d])))
      | _ => False) (fun x h => P.R x σ h)
    | _ => False) (fun x h => P.R x σ h)
  | .ret e, σ, h, P => wpE Γ e σ h P.rt (fun x h => P.R x σ h)
  | .retN, _, h, P => P.rt .non h
  | .ite c a b, σ, h, P => wpE Γ c σ h (fun x h => match x with
    | .bl k => if k = true then wpSs Γ a σ h P else wpSs Γ b σ h P
    | _ => False) (fun x h => P.R x σ h)
  | .whl c b, σ, h, P => ∃ W : Nat → Env → AH → Prop, (∃ m, W m σ h) ∧ ∀ m σ h, W m σ h → wpE Γ c σ h (fun x h => match x with
    | .bl k => if k = true then wpSs Γ b σ h { P with nx := fun σ h => ∃ m', m' < m ∧ W m' σ h, ct := fun σ h => ∃ m', m' < m ∧ W m' σ h } else P.nx σ h
    | _ => False) (fun x h => P.R x σ h)
  | .for_ t it b, σ, h, P => wpI Γ it σ h (fun ds h => forL (fun σ h P => wpSs Γ b σ h P) (bindT t) ds σ h P) (fun x h => P.R x σ h)
  | .try_ b hs, σ, h, P => wpSs Γ b σ.nex h ⟨fun σ h => P.nx σ.nex h, P.rt, fun σ h => P.ct σ.nex h, fun x σ h => wpH Γ hs x σ.nex h P⟩
  | .raise c e, σ, h, P => wpE Γ e σ h (fun d h => P.R ⟨c, d⟩ σ h) (fun x h => P.R x σ h)
  | .never, _, _, _ => False
  | .pass, σ, h, P => P.nx σ h
  | .cont, σ, h, P => P.ct σ h
  | .frz i, σ, h, P => match σ.at i with
    | .own l => P.nx (σ.put i (.val (.lst l))) h
    | _ => False
  | .frzR i, σ, h, P => match σ.at i with
    | .val (.ref a) => match h a with
      | some (.lst l) => P.nx (σ.put i (.val (.lst l))) (fun b => if b = a then none else h b)
      | _ => False
    | _ => False
def wpSs (Γ : Gam) : Ss → Env → AH → Post → Prop
  | .nil, σ, h, P => P.nx σ h
  | .cons s r, σ, h, P => wpS Γ s σ h { P with nx := fun σ h => wpSs Γ r σ h P }
def wpH (Γ : Gam) : Hs → Exc → Env → AH → Post → Prop
  | .nil, x, σ, h, P => P.R x σ h
  | .cons c n b r, x, σ, h, P => match Γ.sub x.c c with
    | some true => (match n with
      | some i => wpSs Γ b (σ.put i (.exc x.c x.v)) h ⟨fun σ h => P.nx (σ.put i .un).nex h, P.rt, fun σ h => P.ct (σ.put i .un).nex h, fun _ _ _ => False⟩
      | none => wpSs Γ b σ h ⟨fun σ h => P.nx σ.nex h, P.rt, fun σ h => P.ct σ.nex h, fun _ _ _ => False⟩)
    | some false => wpH Γ r x σ h P
    | none => False
end
/-- a def's text: how many parameters, how many names, the body -/
structure Fd where
  np : Nat
  ns : Nat
  body : Ss
def start (ns : Nat) (ds : List D) : Env := ds.map .val ++ List.replicate (ns - ds.length) .un
def BodyOk (Γ : Gam) (f : Fd) (sp : Spec) : Prop :=
  ∀ ds h Q R, sp ds h Q R → ds.length = f.np ∧ wpSs Γ f.body (start f.ns ds) h ⟨fun _ h => Q .non h, Q, fun _ _ => False, fun x _ h => R x h⟩
/-- a def that is given a call -/
def BodyOkH (Γ : Gam) (f : Fd) (sp : (AH → QE → RE → Prop) → AH → QE → RE → Prop) : Prop :=
  ∀ a act h Q R, sp act h Q R → f.np = 1 ∧ wpSs (Γ.given a act) f.body (start f.ns [.ref a]) h ⟨fun _ h => Q .non h, Q, fun _ _ => False, fun x _ h => R x h⟩
/-- the same, where objects made on the way may be forgotten -/
def BodyOkD (Γ : Gam) (f : Fd) (sp : Spec) : Prop :=
  ∀ ds h Q R, sp ds h Q R → ds.length = f.np ∧ wpSs Γ f.body (start f.ns ds) h ⟨fun _ h => ∃ h', AH.Sub h' h ∧ Q .non h', fun d h => ∃ h', AH.Sub h' h ∧ Q d h', fun _ _ => False, fun x _ h => ∃ h', AH.Sub h' h ∧ R x h'⟩
end FF
namespace FF
open PySem PySem.Spec PyProof.Rows L2
/-! ### the machine's names for our numbers -/
structure Tb where
  K : PySem.W.Frag
  cA : Nat → Addr
  fA : Nat → Addr
  tbl : List Str
  nd : tbl.Nodup
  xf : Nat → Str
  lam : List (Addr × Str) := []
abbrev sOf (s : List Nat) : Str := ⟨s.toArray⟩
/-- keys of dicts -/
def kyK : Int ⊕ List Nat → Key
  | .inl i => .inl i
  | .inr s => .inr (sOf s)
mutual
inductive Rep (T : Tb) (F : Hp) : D → V → Prop
  | non : Rep T F .non .non
  | bl {b : Bool} : Rep T F (.bl b) (.bl b)
  | int {i : Int} : Rep T F (.int i) (.int i)
  | str {s : List Nat} : Rep T F (.str s) (.str (sOf s))
  | tup {l : List D} {a : Addr} {vs : List V} : SqT T.K F a vs → Reps T F l vs → Rep T F (.tup l) (.ref a)
  | lst {l : List D} {a : Addr} {vs : List V} : SqL T.K F a vs → Reps T F l vs → Rep T F (.lst l) (.ref a)
  | obj {c : Nat} {fs : List (Nat × D)} {a dx : Addr} {fvs : List (Str × V)} : F a = some (.ins (T.cA c) dx fvs) → Cls T.K (T.cA c) → RepF T F c fs fvs → Rep T F (.obj c fs) (.ref a)
  | ref {a : Addr} : Rep T F (.ref a) (.ref a)
  | fn {n : Nat} : Rep T F (.fn n) (.ref (T.fA n))
  | dct {a : Addr} : F a = some (.dK []) → Rep T F (.odd 0) (.ref a)
  | dcm {a : Addr} : F a = some (.dK [(.inr (sOf [100, 111, 119, 110]), .str (sOf [117, 112])), (.inr (sOf [117, 112]), .str (sOf [100, 111, 119, 110]))]) → Rep T F (.odd 1) (.ref a)
  | map {ks : List (Int ⊕ List Nat)} {ds : List D} {a : Addr} {vs : List V} : F a = some (.dK ((ks.map kyK).zip vs)) → ks.length = vs.length → Reps T F ds vs → Rep T F (.map ks ds) (.ref a)
inductive Reps (T : Tb) (F : Hp) : List D → List V → Prop
  | nil : Reps T F [] []
  | cons {d : D} {v : V} {ds : List D} {vs : List V} : Rep T F d v → Reps T F ds vs → Reps T F (d :: ds) (v :: vs)
inductive RepF (T : Tb) (F : Hp) : Nat → List (Nat × D) → List (Str × V) → Prop
  | nil {c : Nat} : RepF T F c [] []
  | cons {c : Nat} {f : Nat} {x : Str} {d : D} {v : V} {ds : List (Nat × D)} {vs : List (Str × V)} : T.tbl[f]? = some x ∧ NoAttr T.K (T.cA c) x → Rep T F d v → RepF T F c ds vs → RepF T F c ((f, d) :: ds) ((x, v) :: vs)
end
theorem Same.sqt {K : PySem.W.Frag} {H H' : Hp} {a : Addr} {xs : List V} (e : Same H H') (h : SqT K H a xs) : SqT K H' a xs := by
  rcases h with (h | ⟨o, h⟩) | h
  · exact .inl (.inl (e _ _ h))
  · exact .inl (.inr ⟨o, e _ _ h⟩)
  · exact .inr h
mutual
theorem Rep.mono {T : Tb} {F F' : Hp} (e : Same F F') : ∀ {d : D} {v : V}, Rep T F d v → Rep T F' d v
  | _, _, .non => .non
  | _, _, .bl => .bl
  | _, _, .int => .int
  | _, _, .str => .str
  | _, _, .tup h r => .tup (Same.sqt e h) (Reps.mono e r)
  | _, _, .lst h r => .lst (e.seq h) (Reps.mono e r)
  | _, _, .obj h k r => .obj (e _ _ h) k (RepF.mono e r)
  | _, _, .ref => .ref
  | _, _, .fn => .fn
  | _, _, .dct h => .dct (e _ _ h)
  | _, _, .dcm h => .dcm (e _ _ h)
  | _, _, .map h l r => .map (e _ _ h) l (Reps.mono e r)
theorem Reps.mono {T : Tb} {F F' : Hp} (e : Same F F') : ∀ {d : List D} {v : List V}, Reps T F d v → Reps T F' d v
  | _, _, .nil => .nil
  | _, _, .cons h r => .cons (Rep.mono e h) (Reps.mono e r)
theorem RepF.mono {T : Tb} {F F' : Hp} (e : Same F F') : ∀ {c : Nat} {d : List (Nat × D)} {v : List (Str × V)}, RepF T F c d v → RepF T F' c d v
  | _, _, _, .nil => .nil
  | _, _, _, .cons x h r => .cons x (Rep.mono e h) (RepF.mono e r)
end
section
variable {T : Tb} {F : Hp}
theorem Reps.length : ∀ {d : List D} {v : List V}, Reps T F d v → d.length = v.length
  | _, _, .nil => rfl
  | _, _, .cons _ r => congrArg (· + 1) (Reps.length r)
theorem Reps.append : ∀ {d e : List D} {v u : List V}, Reps T F d v → Reps T F e u → Reps T F (d ++ e) (v ++ u)
  | _, _, _, _, .nil, s => s
  | _, _, _, _, .cons h r, s => .cons h (Reps.append r s)
theorem Reps.get : ∀ {d : List D} {v : List V} {i : Nat} {x : D}, Reps T F d v → d[i]? = some x → ∃ u, v[i]? = some u ∧ Rep T F x u
  | _, _, i, x, .nil, e => by simp at e
  | _, _, 0, x, .cons (d := d) h _, e => by
    have e : d = x := by simpa using e
    subst e
    exact ⟨_, rfl, h⟩
  | _, _, i + 1, x, .cons _ r, e => Reps.get (i := i) r (by simpa using e)
theorem Reps.set {x : D} {u : V} (h : Rep T F x u) : ∀ {d : List D} {v : List V} (i : Nat), Reps T F d v → Reps T F (d.set i x) (v.set i u)
  | _, _, _, .nil => .nil
  | _, _, 0, .cons _ r => .cons h r
  | _, _, i + 1, .cons g r => .cons g (Reps.set h i r)
theorem Reps.take : ∀ {d : List D} {v : List V} (n : Nat), Reps T F d v → Reps T F (d.take n) (v.take n)
  | _, _, 0, _ => .nil
  | _, _, _ + 1, .nil => .nil
  | _, _, n + 1, .cons h r => .cons h (Reps.take n r)
theorem Reps.drop : ∀ {d : List D} {v : List V} (n : Nat), Reps T F d v → Reps T F (d.drop n) (v.drop n)
  | _, _, 0, r => r
  | _, _, _ + 1, .nil => .nil
  | _, _, n + 1, .cons _ r => Reps.drop n r
theorem Reps.reverseAux : ∀ {d e : List D} {v u : List V}, Reps T F d v → Reps T F e u → Reps T F (d.reverseAux e) (v.reverseAux u)
  | _, _, _, _, .nil, s => s
  | _, _, _, _, .cons h r, s => by
    have q := Reps.reverseAux r (Reps.cons h s)
    exact q
theorem Reps.reverse {d : List D} {v : List V} (h : Reps T F d v) : Reps T F d.reverse v.reverse := Reps.reverseAux h .nil
theorem Reps.one {d : D} {v : V} (h : Rep T F d v) : Reps T F [d] [v] := .cons h .nil
theorem Reps.intsOf : ∀ {d : List D} {v : List V} {ns : List Int}, Reps T F d v → intsOf d = some ns → v = ns.map V.int
  | _, _, ns, .nil, e => by
    have e : [] = ns := by simpa [FF.intsOf] using e
    subst e; rfl
  | _, _, ns, .cons (ds := ds) (d := .int i) h r, e => by
    have e' : (match FF.intsOf ds with | some l => some (i :: l) | none => none) = some ns := e
    cases q : FF.intsOf ds with
    | none => rw [q] at e'; cases e'
    | some l =>
      rw [q] at e'
      cases e'
      cases h
      rw [Reps.intsOf r q]
      rfl
  | _, _, ns, .cons (d := .non) _ _, e => by cases e
  | _, _, ns, .cons (d := .bl _) _ _, e => by cases e
  | _, _, ns, .cons (d := .str _) _ _, e => by cases e
  | _, _, ns, .cons (d := .tup _) _ _, e => by cases e
  | _, _, ns, .cons (d := .lst _) _ _, e => by cases e
  | _, _, ns, .cons (d := .obj _ _) _ _, e => by cases e
  | _, _, ns, .cons (d := .ref _) _ _, e => by cases e
  | _, _, ns, .cons (d := .fn _) _ _, e => by cases e
  | _, _, ns, .cons (d := .odd _) _ _, e => by cases e
theorem Reps.boolsOf : ∀ {d : List D} {v : List V} {ns : List Bool}, Reps T F d v → boolsOf d = some ns → v = ns.map V.bl
  | _, _, ns, .nil, e => by
    have e : [] = ns := by simpa [FF.boolsOf] using e
    subst e; rfl
  | _, _, ns, .cons (ds := ds) (d := .bl i) h r, e => by
    have e' : (match FF.boolsOf ds with | some l => some (i :: l) | none => none) = some ns := e
    cases q : FF.boolsOf ds with
    | none => rw [q] at e'; cases e'
    | some l =>
      rw [q] at e'
      cases e'
      cases h
      rw [Reps.boolsOf r q]
      rfl
  | _, _, ns, .cons (d := .non) _ _, e => by cases e
  | _, _, ns, .cons (d := .int _) _ _, e => by cases e
  | _, _, ns, .cons (d := .str _) _ _, e => by cases e
  | _, _, ns, .cons (d := .tup _) _ _, e => by cases e
  | _, _, ns, .cons (d := .lst _) _ _, e => by cases e
  | _, _, ns, .cons (d := .obj _ _) _ _, e => by cases e
  | _, _, ns, .cons (d := .ref _) _ _, e => by cases e
  | _, _, ns, .cons (d := .fn _) _ _, e => by cases e
  | _, _, ns, .cons (d := .odd _) _ _, e => by cases e
theorem tbl_inj {f g : Nat} {x y : Str} (hf : T.tbl[f]? = some x) (hg : T.tbl[g]? = some y) (h : f ≠ g) : x ≠ y := fun e => by
  subst e
  obtain ⟨h1, e1⟩ := List.getElem?_eq_some_iff.mp hf
  obtain ⟨h2, e2⟩ := List.getElem?_eq_some_iff.mp hg
  exact h ((List.getElem_inj T.nd).mp (e1.trans e2.symm))
theorem RepF.get {f : Nat} {x : Str} (hx : T.tbl[f]? = some x) : ∀ {c : Nat} {d : List (Nat × D)} {v : List (Str × V)} {y : D}, RepF T F c d v → getF f d = some y → ∃ u, v.lookup x = some u ∧ Rep T F y u ∧ NoAttr T.K (T.cA c) x
  | _, _, _, y, .nil, e => by cases e
  | _, _, _, y, .cons (f := g) (x := z) (d := d) (v := v) (ds := ds) (vs := vs) hz h r, e => by
    have e' : (if g = f then some d else getF f ds) = some y := e
    by_cases q : g = f
    · rw [if_pos q] at e'
      cases e'
      subst q
      have : z = x := Option.some.inj (hz.1.symm.trans hx)
      subst this
      exact ⟨v, by simp [List.lookup], h, hz.2⟩
    · rw [if_neg q] at e'
      obtain ⟨u, e1, e2, e3⟩ := RepF.get hx r e'
      have ne : x ≠ z := tbl_inj hx hz.1 (fun e => q e.symm)
      have b : (x == z) = false := by simpa using ne
      exact ⟨u, by simp [List.lookup, b, e1], e2, e3⟩
theorem RepF.put {c : Nat} {f : Nat} {x : Str} {y : D} {u : V} (hx : T.tbl[f]? = some x ∧ NoAttr T.K (T.cA c) x) (hy : Rep T F y u) : ∀ {d : List (Nat × D)} {v : List (Str × V)}, RepF T F c d v → RepF T F c (putF f y d) (L2.putF x u v)
  | _, _, .nil => .cons hx hy .nil
  | _, _, .cons (f := g) (x := z) (d := d) (v := v) (ds := ds) (vs := vs) hz h r => by
    by_cases q : g = f
    · subst q
      have : z = x := Option.some.inj (hz.1.symm.trans hx.1)
      subst this
      have e1 : FF.putF g y ((g, d) :: ds) = (g, y) :: ds := if_pos rfl
      have e2 : L2.putF z u ((z, v) :: vs) = (z, u) :: vs := by simp [L2.putF]
      rw [e1, e2]
      exact .cons hz hy r
    · have ne : z ≠ x := tbl_inj hz.1 hx.1 q
      have e1 : FF.putF f y ((g, d) :: ds) = (g, d) :: FF.putF f y ds := if_neg q
      have e2 : L2.putF x u ((z, v) :: vs) = (z, v) :: L2.putF x u vs := by simp [L2.putF, ne]
      rw [e1, e2]
      exact .cons hz h (RepF.put hx hy r)
theorem RepF.length : ∀ {c : Nat} {d : List (Nat × D)} {v : List (Str × V)}, RepF T F c d v → d.length = v.length
  | _, _, _, .nil => rfl
  | _, _, _, .cons _ _ r => congrArg (· + 1) (RepF.length r)
/-- no field bears a method's name -/
theorem RepF.none {c : Nat} {m : Str} {o : Option Value} (hm : PySem.W.findIn T.K (.ref (T.cA c)) m = some o) (ho : o ≠ Option.none) : ∀ {d : List (Nat × D)} {v : List (Str × V)}, RepF T F c d v → v.lookup m = Option.none
  | _, _, .nil => rfl
  | _, _, .cons (x := x) hz _ r => by
    have ne : m ≠ x := fun e => by
      subst e
      have := hz.2
      unfold NoAttr at this
      rw [hm] at this
      exact ho (Option.some.inj this)
    have b : (m == x) = false := by simpa using ne
    simp [List.lookup, b, RepF.none hm ho r]
end
/-! ### the state -/
def CellR (T : Tb) (F : Hp) (H : Hp) (a : Addr) : Cell → Prop
  | .lst l => ∃ vs, H a = some (.lst vs) ∧ Reps T F l vs
  | .obj c fs => ∃ dx fvs, H a = some (.ins (T.cA c) dx fvs) ∧ Cls T.K (T.cA c) ∧ RepF T F c fs fvs
def SlotR (T : Tb) (pn : List (Addr × Obj)) (F G : Hp) (h : AH) (H : Hp) (o : Option (Option V)) : Slot → Prop
  | .un => True
  | .val d => ∃ v, o = some (some v) ∧ Rep T F d v
  | .own l => ∃ a vs, o = some (some (.ref a)) ∧ H a = some (.lst vs) ∧ F a = none ∧ G a = none ∧ h a = none ∧ Reps T F l vs
  | .exc c d => ∃ a oe dd v, o = some (some (.ref a)) ∧ (a, oe) ∈ pn ∧ Zc (.ref (T.cA c)) (some dd) oe ∧ (∃ fv, oe.data = .fields fv) ∧ F dd = some (.xd [(T.xf c, v)]) ∧ Rep T F d v
/-- the tables of the lambdas stand; nobody else tells of tables -/
structure TbS (T : Tb) (F G H : Hp) : Prop where
  tabs : LamX.Tabs T.lam H
  nF : ∀ b ps, F b ≠ some (.tbl ps)
  nG : ∀ b ps, G b ≠ some (.tbl ps)
/-- lists and objects change, nothing else -/
theorem TbS.go {T : Tb} {F G H F' G' H' : Hp} (x : TbS T F G H) (e : ∀ b o, H b = some o → (∀ vs, o ≠ .lst vs) → (∀ c d f, o ≠ .ins c d f) → H' b = some o) (hF : ∀ b ps, F' b = some (.tbl ps) → F b = some (.tbl ps)) (hG : ∀ b ps, G' b = some (.tbl ps) → G b = some (.tbl ps)) : TbS T F' G' H' := by
  refine ⟨fun p hp => ?_, fun b ps z => x.nF b ps (hF b ps z), fun b ps z => x.nG b ps (hG b ps z)⟩
  obtain ⟨ps, h1, h2, h3⟩ := x.tabs p hp
  refine ⟨ps, e _ _ h1 (fun _ z => by cases z) (fun _ _ _ z => by cases z), h2, fun pos cv hc => ?_⟩
  obtain ⟨c, e1, e2⟩ := h3 pos cv hc
  exact ⟨c, e1, e _ _ e2 (fun _ z => by cases z) (fun _ _ _ z => by cases z)⟩
theorem upd_tbl {F : Hp} {p b : Addr} {o : HO} {ps : Array Value} (h : ∀ ps, o ≠ .tbl ps) (z : upd F p o b = some (.tbl ps)) : F b = some (.tbl ps) := by
  by_cases hb : b = p
  · subst hb
    rw [upd_same] at z
    exact absurd (Option.some.inj z) (h ps)
  · rw [upd_ne hb] at z
    exact z
/-- F: what never changes; G: the others'; h: what may be changed -/
structure SH (T : Tb) (F G : Hp) (h : AH) (H : Hp) : Prop where
  sF : Same F H
  sG : Same G H
  dis : ∀ b, F b = none ∨ G b = none
  cell : ∀ a c, h a = some c → F a = none ∧ G a = none ∧ CellR T F H a c
  tb : TbS T F G H
structure SR0 (T : Tb) (pn : List (Addr × Obj)) (F G : Hp) (σ : Env) (h : AH) (τ : L2.St) (H : Hp) : Prop where
  sh : SH T F G h H
  len : σ.length = τ.length
  slot : ∀ i, SlotR T pn F G h H τ[i]? (σ.at i)
  sep : ∀ i j l m a, i ≠ j → σ.at i = .own l → σ.at j = .own m → τ[i]? = some (some (V.ref a)) → τ[j]? ≠ some (some (V.ref a))
theorem Env.at_put_self : ∀ {σ : Env} {i : Nat} {x : Slot}, i < σ.length → (σ.put i x).at i = x
  | _ :: _, 0, _, _ => rfl
  | _ :: r, i + 1, x, h => Env.at_put_self (σ := r) (i := i) (Nat.lt_of_succ_lt_succ h)
theorem Env.at_put_ne : ∀ {σ : Env} {i j : Nat} {x : Slot}, j ≠ i → (σ.put i x).at j = σ.at j
  | [], _, _, _, _ => rfl
  | _ :: _, 0, 0, _, h => absurd rfl h
  | _ :: _, 0, j + 1, _, _ => rfl
  | _ :: _, i + 1, 0, _, _ => rfl
  | _ :: r, i + 1, j + 1, x, h => Env.at_put_ne (σ := r) (i := i) (j := j) (fun e => h (congrArg (· + 1) e))
theorem Env.length_put : ∀ {σ : Env} {i : Nat} {x : Slot}, (σ.put i x).length = σ.length
  | [], _, _ => rfl
  | _ :: _, 0, _ => rfl
  | _ :: r, i + 1, x => congrArg (· + 1) (Env.length_put (σ := r))
theorem Env.at_out : ∀ {σ : Env} {i : Nat}, σ.length ≤ i → σ.at i = .un
  | [], _, _ => rfl
  | _ :: _, 0, h => absurd h (by simp)
  | _ :: r, i + 1, h => Env.at_out (σ := r) (Nat.le_of_succ_le_succ h)
theorem Env.put_out : ∀ {σ : Env} {i : Nat} {x : Slot}, σ.length ≤ i → σ.put i x = σ
  | [], _, _, _ => rfl
  | _ :: _, 0, _, h => absurd h (by simp)
  | s :: r, i + 1, x, h => congrArg (s :: ·) (Env.put_out (σ := r) (Nat.le_of_succ_le_succ h))
section
variable {T : Tb} {pn : List (Addr × Obj)} {F F' G : Hp} {σ : Env} {h h' : AH} {τ : L2.St} {H H' : Hp}
theorem CellR.mono {a : Addr} {c : Cell} (x : CellR T F H a c) (e : Same F F') (k : H' a = H a) : CellR T F' H' a c := by
  cases c with
  | lst l => obtain ⟨vs, e1, r⟩ := x; exact ⟨vs, k.trans e1, r.mono e⟩
  | obj c fs => obtain ⟨dx, fvs, e1, c0, r⟩ := x; exact ⟨dx, fvs, k.trans e1, c0, r.mono e⟩
theorem CellR.there {a : Addr} {c : Cell} (x : CellR T F H a c) : ∃ o, H a = some o := by
  cases c with
  | lst l => obtain ⟨vs, e1, r⟩ := x; exact ⟨_, e1⟩
  | obj c fs => obtain ⟨dx, fvs, e1, r⟩ := x; exact ⟨_, e1⟩
theorem Same.at {H H' : Hp} (e : Same H H') {a : Addr} {o : HO} (h : H a = some o) : H' a = H a := by rw [h]; exact e _ _ h
/-- nothing is changed: objects are laid beside, some of them known from now on -/
structure Grow (F H F' H' : Hp) : Prop where
  f : Same F F'
  h : Same H H'
  s : Same F' H'
  n : ∀ b, F' b = none ∨ F b ≠ none ∨ H b = none
  t : ∀ b ps, F' b = some (.tbl ps) → F b = some (.tbl ps)
theorem Grow.refl (s : Same F H) : Grow F H F H := ⟨Same.refl _, Same.refl _, s, fun b => by
  cases e : F b with
  | none => exact .inl rfl
  | some o => exact .inr (.inl (by simp)), fun _ _ e => e⟩
theorem Grow.new {p : Addr} {o : HO} (s : Same F H) (n : H p = none) (ho : ∀ ps, o ≠ .tbl ps := by intro _ z; cases z) : Grow F H (upd F p o) (upd H p o) := by
  have nF : F p = none := s.free n
  refine ⟨fun b x e => ?_, fun b x e => ?_, fun b x e => ?_, fun b => ?_, fun b ps e => upd_tbl ho e⟩
  · rw [upd_ne (ne_of_none e nF)]; exact e
  · rw [upd_ne (ne_of_none e n)]; exact e
  · by_cases hb : b = p
    · subst hb; rw [upd_same] at e ⊢; exact e
    · rw [upd_ne hb] at e ⊢; exact s _ _ e
  · by_cases hb : b = p
    · subst hb; exact .inr (.inr n)
    · rw [upd_ne hb]
      cases e : F b with
      | none => exact .inl rfl
      | some o => exact .inr (.inl (by simp))
/-- an object laid, known to nobody -/
theorem Grow.beside {p : Addr} {o : HO} (s : Same F H) (n : H p = none) : Grow F H F (upd H p o) := by
  have k : Same H (upd H p o) := fun b x e => by rw [upd_ne (ne_of_none e n)]; exact e
  exact ⟨Same.refl _, k, s.trans k, (Grow.refl s).n, fun _ _ e => e⟩
theorem SH.grow (x : SH T F G h H) (g : Grow F H F' H') : SH T F' G h H' := by
  refine ⟨g.s, x.sG.trans g.h, fun b => ?_, fun a c e => ?_, x.tb.go (fun b o e _ _ => g.h _ _ e) g.t fun _ _ e => e⟩
  · rcases g.n b with q | q | q
    · exact .inl q
    · rcases x.dis b with z | z
      · exact absurd z q
      · exact .inr z
    · exact .inr (x.sG.free q)
  · obtain ⟨e1, e2, e3⟩ := x.cell a c e
    obtain ⟨o, ho⟩ := e3.there
    refine ⟨?_, e2, e3.mono g.f (Same.at g.h ho)⟩
    rcases g.n a with q | q | q
    · exact q
    · exact absurd e1 q
    · rw [ho] at q; cases q
theorem SR0.grow (x : SR0 T pn F G σ h τ H) (g : Grow F H F' H') : SR0 T pn F' G σ h τ H' := by
  refine ⟨x.sh.grow g, x.len, fun i => ?_, x.sep⟩
  have q := x.slot i
  cases e : σ.at i with
  | un => trivial
  | val d =>
    rw [e] at q
    obtain ⟨v, e1, r⟩ := q
    exact ⟨v, e1, r.mono g.f⟩
  | own l =>
    rw [e] at q
    obtain ⟨a, vs, e1, e2, e3, e4, e5, r⟩ := q
    refine ⟨a, vs, e1, g.h _ _ e2, ?_, e4, e5, r.mono g.f⟩
    rcases g.n a with q | q | q
    · exact q
    · exact absurd e3 q
    · rw [e2] at q; cases q
  | exc c d =>
    rw [e] at q
    obtain ⟨a, oe, dd, v, e1, e2, e3, e4, e5, r⟩ := q
    exact ⟨a, oe, dd, v, e1, e2, e3, e4, g.f _ _ e5, r.mono g.f⟩
theorem SR0.val {i : Nat} {d : D} (x : SR0 T pn F G σ h τ H) (e : σ.at i = .val d) : ∃ v, τ[i]? = some (some v) ∧ Rep T F d v := by
  have q := x.slot i
  rw [e] at q
  exact q
/-- fewer cells -/
theorem SH.less (x : SH T F G h H) (s : AH.Sub h' h) : SH T F G h' H := ⟨x.sF, x.sG, x.dis, fun a c e => x.cell a c (s a c e), x.tb⟩
theorem AH.Sub.free {h h' : AH} (s : AH.Sub h' h) {a : Nat} (e : h a = none) : h' a = none := by
  cases q : h' a with
  | none => rfl
  | some c => rw [s a c q] at e; cases e
theorem SR0.less (x : SR0 T pn F G σ h τ H) (s : AH.Sub h' h) : SR0 T pn F G σ h' τ H := by
  refine ⟨x.sh.less s, x.len, fun i => ?_, x.sep⟩
  have q := x.slot i
  cases e : σ.at i with
  | un => trivial
  | val d => rw [e] at q; exact q
  | own l =>
    rw [e] at q
    obtain ⟨a, vs, e1, e2, e3, e4, e5, r⟩ := q
    exact ⟨a, vs, e1, e2, e3, e4, s.free e5, r⟩
  | exc c d => rw [e] at q; exact q
/-- a slot is stored -/
theorem SR0.store {i : Nat} {d : D} {v : V} (x : SR0 T pn F G σ h τ H) (r : Rep T F d v) : SR0 T pn F G (σ.put i (.val d)) h (τ.set i (some v)) H := by
  refine ⟨x.sh, by rw [Env.length_put, List.length_set]; exact x.len, fun j => ?_, fun j k l m a hn e1 e2 e3 e4 => ?_⟩
  · by_cases hi : i < σ.length
    · by_cases hj : j = i
      · subst hj
        rw [Env.at_put_self hi, List.getElem?_set_self (x.len ▸ hi)]
        exact ⟨v, rfl, r⟩
      · rw [Env.at_put_ne hj, List.getElem?_set_ne (Ne.symm hj)]
        exact x.slot j
    · rw [Env.put_out (Nat.le_of_not_lt hi), List.set_eq_of_length_le (by rw [← x.len]; exact Nat.le_of_not_lt hi)]
      exact x.slot j
  · by_cases hi : i < σ.length
    · have n1 : j ≠ i := fun z => by subst z; rw [Env.at_put_self hi] at e1; cases e1
      have n2 : k ≠ i := fun z => by subst z; rw [Env.at_put_self hi] at e2; cases e2
      rw [Env.at_put_ne n1] at e1
      rw [Env.at_put_ne n2] at e2
      rw [List.getElem?_set_ne (Ne.symm n1)] at e3
      rw [List.getElem?_set_ne (Ne.symm n2)] at e4
      exact x.sep j k l m a hn e1 e2 e3 e4
    · rw [Env.put_out (Nat.le_of_not_lt hi)] at e1 e2
      rw [List.set_eq_of_length_le (by rw [← x.len]; exact Nat.le_of_not_lt hi)] at e3 e4
      exact x.sep j k l m a hn e1 e2 e3 e4
/-- a slot is forgotten on our side -/
theorem SR0.forget {i : Nat} {o : Option V} (x : SR0 T pn F G σ h τ H) : SR0 T pn F G (σ.put i .un) h (τ.set i o) H := by
  refine ⟨x.sh, by rw [Env.length_put, List.length_set]; exact x.len, fun j => ?_, fun j k l m a hn e1 e2 e3 e4 => ?_⟩
  · by_cases hi : i < σ.length
    · by_cases hj : j = i
      · subst hj
        rw [Env.at_put_self hi]
        trivial
      · rw [Env.at_put_ne hj, List.getElem?_set_ne (Ne.symm hj)]
        exact x.slot j
    · rw [Env.put_out (Nat.le_of_not_lt hi), List.set_eq_of_length_le (by rw [← x.len]; exact Nat.le_of_not_lt hi)]
      exact x.slot j
  · by_cases hi : i < σ.length
    · have n1 : j ≠ i := fun z => by subst z; rw [Env.at_put_self hi] at e1; cases e1
      have n2 : k ≠ i := fun z => by subst z; rw [Env.at_put_self hi] at e2; cases e2
      rw [Env.at_put_ne n1] at e1
      rw [Env.at_put_ne n2] at e2
      rw [List.getElem?_set_ne (Ne.symm n1)] at e3
      rw [List.getElem?_set_ne (Ne.symm n2)] at e4
      exact x.sep j k l m a hn e1 e2 e3 e4
    · rw [Env.put_out (Nat.le_of_not_lt hi)] at e1 e2
      rw [List.set_eq_of_length_le (by rw [← x.len]; exact Nat.le_of_not_lt hi)] at e3 e4
      exact x.sep j k l m a hn e1 e2 e3 e4
theorem SR0.wipe (x : SR0 T pn F G σ h τ H) : ∀ vs : List Nat, SR0 T pn F G (σ.wipe vs) h (L2.wipe τ vs) H
  | [] => x
  | v :: vs => (SR0.wipe x vs).forget
theorem Env.length_nox : ∀ {σ : Env}, σ.nox.length = σ.length
  | [] => rfl
  | _ :: r => congrArg (· + 1) (Env.length_nox (σ := r))
theorem Env.at_nox : ∀ {σ : Env} {i : Nat}, σ.nox.at i = (σ.at i).nox
  | [], _ => rfl
  | _ :: _, 0 => rfl
  | _ :: r, i + 1 => Env.at_nox (σ := r) (i := i)
/-- a frame beside: values alone are told -/
theorem SR0.nox {G2 : Hp} (x : SR0 T pn F G σ h τ H) {pn' : List (Addr × Obj)} (sF : Same F F') (sh : SH T F' G2 h' H') : SR0 T pn' F' G2 σ.nox h' τ H' := by
  refine ⟨sh, Env.length_nox.trans x.len, fun i => ?_, fun i j l m a hn e1 e2 e3 e4 => ?_⟩
  · have q := x.slot i
    rw [Env.at_nox]
    cases e : σ.at i with
    | exc c d => trivial
    | un => trivial
    | val d =>
      rw [e] at q
      obtain ⟨v, e1, r⟩ := q
      exact ⟨v, e1, r.mono sF⟩
    | own l => trivial
  · rw [Env.at_nox] at e1
    exfalso
    cases e : σ.at i with
    | own l' => rw [e] at e1; cases e1
    | un => rw [e] at e1; cases e1
    | val d => rw [e] at e1; cases e1
    | exc c d => rw [e] at e1; cases e1
/-- a list that we alone know -/
theorem SH.hide {o : HO} {p : Addr} (x : SH T F G h H) (n : H p = none) (ho : ∀ ps, o ≠ .tbl ps := by intro _ z; cases z) : SH T F (upd G p o) h (upd H p o) := by
  have nF : F p = none := x.sF.free n
  have nG : G p = none := x.sG.free n
  refine ⟨fun b u e => ?_, fun b u e => ?_, fun b => ?_, fun a c e => ?_, x.tb.go (fun b u e _ _ => by rw [upd_ne (ne_of_none e n)]; exact e) (fun _ _ e => e) fun _ _ e => upd_tbl ho e⟩
  · rw [upd_ne (ne_of_none e nF)]; exact x.sF _ _ e
  · by_cases hb : b = p
    · subst hb; rw [upd_same] at e ⊢; exact e
    · rw [upd_ne hb] at e ⊢; exact x.sG _ _ e
  · by_cases hb : b = p
    · subst hb; exact .inl nF
    · rw [upd_ne hb]; exact x.dis b
  · obtain ⟨e1, e2, e3⟩ := x.cell a c e
    have ne : a ≠ p := fun z => by subst z; obtain ⟨o, ho⟩ := e3.there; rw [n] at ho; cases ho
    exact ⟨e1, by rw [upd_ne ne]; exact e2, e3.mono (Same.refl _) (upd_ne ne)⟩
theorem SH.hidw {o o' : HO} {p : Addr} (x : SH T F (upd G p o) h H) (ho : ∃ vs, o = .lst vs := by exact ⟨_, rfl⟩) (ho' : ∀ ps, o' ≠ .tbl ps := by intro _ z; cases z) : SH T F (upd G p o') h (upd H p o') := by
  obtain ⟨vs0, e0⟩ := ho
  have hp0 : H p = some o := x.sG _ _ upd_same
  have nF : F p = none := by
    rcases x.dis p with z | z
    · exact z
    · rw [upd_same] at z; cases z
  refine ⟨fun b u e => ?_, fun b u e => ?_, fun b => ?_, fun a c e => ?_, x.tb.go (fun b u e n1 _ => ?_) (fun _ _ e => e) fun b ps e => ?_⟩
  · rw [upd_ne (ne_of_none e nF)]; exact x.sF _ _ e
  · by_cases hb : b = p
    · subst hb; rw [upd_same] at e ⊢; exact e
    · rw [upd_ne hb] at e ⊢; exact x.sG _ _ (by rw [upd_ne hb]; exact e)
  · by_cases hb : b = p
    · subst hb; exact .inl nF
    · have z := x.dis b
      rw [upd_ne hb] at z ⊢; exact z
  · obtain ⟨e1, e2, e3⟩ := x.cell a c e
    have ne : a ≠ p := fun z => by subst z; rw [upd_same] at e2; cases e2
    rw [upd_ne ne] at e2
    exact ⟨e1, by rw [upd_ne ne]; exact e2, e3.mono (Same.refl _) (upd_ne ne)⟩
  · have ne : b ≠ p := fun z => by subst z; rw [hp0] at e; cases e; exact n1 _ e0
    rw [upd_ne ne]; exact e
  · by_cases hb : b = p
    · subst hb
      rw [upd_same] at e
      exact absurd (Option.some.inj e) (ho' ps)
    · rw [upd_ne hb] at e ⊢; exact e
theorem SH.unhide {o : HO} {p : Addr} (x : SH T F (upd G p o) h H) (n : G p = none) : SH T (upd F p o) G h H ∧ Same F (upd F p o) := by
  have nF : F p = none := by
    rcases x.dis p with z | z
    · exact z
    · rw [upd_same] at z; cases z
  have fk : Same F (upd F p o) := fun b u e => by rw [upd_ne (ne_of_none e nF)]; exact e
  have ho : ∀ ps, o ≠ .tbl ps := fun ps z => x.tb.nG p ps (by rw [upd_same, z])
  refine ⟨⟨fun b u e => ?_, fun b u e => ?_, fun b => ?_, fun a c e => ?_, x.tb.go (fun _ _ e _ _ => e) (fun _ _ e => upd_tbl ho e) fun b ps e => by rw [upd_ne (ne_of_none e n)]; exact e⟩, fk⟩
  · by_cases hb : b = p
    · subst hb; rw [upd_same] at e; exact x.sG _ _ (by rw [upd_same]; exact e)
    · rw [upd_ne hb] at e; exact x.sF _ _ e
  · exact x.sG _ _ (by rw [upd_ne (ne_of_none e n)]; exact e)
  · by_cases hb : b = p
    · subst hb; exact .inr n
    · have z := x.dis b
      rw [upd_ne hb] at z ⊢; exact z
  · obtain ⟨e1, e2, e3⟩ := x.cell a c e
    have ne : a ≠ p := fun z => by subst z; rw [upd_same] at e2; cases e2
    rw [upd_ne ne] at e2
    exact ⟨by rw [upd_ne ne]; exact e1, e2, e3.mono fk rfl⟩
/-- a new cell -/
theorem CellR.which {a : Addr} {c : Cell} (x : CellR T F H a c) : ∃ o, H a = some o ∧ ((∃ vs, o = .lst vs) ∨ ∃ c d f, o = .ins c d f) := by
  cases c with
  | lst l => obtain ⟨vs, e1, r⟩ := x; exact ⟨_, e1, .inl ⟨_, rfl⟩⟩
  | obj c fs => obtain ⟨dx, fvs, e1, r⟩ := x; exact ⟨_, e1, .inr ⟨_, _, _, rfl⟩⟩
theorem SR0.newcell {p : Addr} {o : HO} {c : Cell} (x : SR0 T pn F G σ h τ H) (n : H p = none) (hc : CellR T F (upd H p o) p c) : SR0 T pn F G σ (h.put p c) τ (upd H p o) := by
  have g := Grow.beside (o := o) x.sh.sF n
  have y := x.grow g
  have nF : F p = none := x.sh.sF.free n
  have nG : G p = none := x.sh.sG.free n
  refine ⟨⟨y.sh.sF, y.sh.sG, y.sh.dis, fun a d e => ?_, y.sh.tb⟩, y.len, fun i => ?_, y.sep⟩
  · by_cases ha : a = p
    · subst ha
      rw [AH.put_same] at e
      cases e
      exact ⟨nF, nG, hc⟩
    · rw [AH.put_ne ha] at e
      exact y.sh.cell a d e
  · have q := y.slot i
    have qx := x.slot i
    cases e : σ.at i with
    | own l =>
      rw [e] at q qx
      obtain ⟨a, vs, e1, e2, e3, e4, e5, r⟩ := q
      obtain ⟨a', vs', e1', e2', _⟩ := qx
      have : a = a' := by
        rw [e1] at e1'
        exact V.ref.inj (Option.some.inj (Option.some.inj e1'))
      subst this
      have ne : a ≠ p := ne_of_none e2' n
      exact ⟨a, vs, e1, e2, e3, e4, by rw [AH.put_ne ne]; exact e5, r⟩
    | exc c d => rw [e] at q; exact q
    | un => trivial
    | val d => rw [e] at q; exact q
/-- a cell is written -/
theorem SR0.write {p : Addr} {o : HO} {c c' : Cell} (x : SR0 T pn F G σ h τ H) (e0 : h p = some c') (hc : CellR T F (upd H p o) p c) : SR0 T pn F G σ (h.put p c) τ (upd H p o) := by
  obtain ⟨nF, nG, c0⟩ := x.sh.cell p c' e0
  have at_ : ∀ b, b ≠ p → upd H p o b = H b := fun b hb => upd_ne hb
  have fk : Same F (upd H p o) := fun b u e => by rw [at_ b (ne_of_none e nF)]; exact x.sh.sF _ _ e
  have gk : Same G (upd H p o) := fun b u e => by rw [at_ b (ne_of_none e nG)]; exact x.sh.sG _ _ e
  obtain ⟨o0, ho0, wo⟩ := c0.which
  refine ⟨⟨fk, gk, x.sh.dis, fun a d e => ?_, x.sh.tb.go (fun b u e n1 n2 => (upd_ne (fun z => by subst z; rw [ho0] at e; cases e; rcases wo with ⟨_, z⟩ | ⟨_, _, _, z⟩; exact n1 _ z; exact n2 _ _ _ z)).trans e) (fun _ _ e => e) fun _ _ e => e⟩, x.len, fun i => ?_, x.sep⟩
  · by_cases ha : a = p
    · subst ha
      rw [AH.put_same] at e
      cases e
      exact ⟨nF, nG, hc⟩
    · rw [AH.put_ne ha] at e
      obtain ⟨e1, e2, e3⟩ := x.sh.cell a d e
      exact ⟨e1, e2, e3.mono (Same.refl _) (at_ a ha)⟩
  · have q := x.slot i
    cases e : σ.at i with
    | own l =>
      rw [e] at q
      obtain ⟨a, vs, e1, e2, e3, e4, e5, r⟩ := q
      have ne : a ≠ p := fun z => by subst z; rw [e0] at e5; cases e5
      exact ⟨a, vs, e1, by rw [at_ a ne]; exact e2, e3, e4, by rw [AH.put_ne ne]; exact e5, r⟩
    | exc c d => rw [e] at q; exact q
    | un => trivial
    | val d => rw [e] at q; exact q
/-- what is told of a cell is told for good; the cell itself is given up -/
theorem SR0.freeze {p : Addr} {o : HO} {c : Cell} (x : SR0 T pn F G σ h τ H) (e0 : h p = some c) (ho : H p = some o) : SR0 T pn (upd F p o) G σ (fun b => if b = p then none else h b) τ H := by
  obtain ⟨nF, nG, c0⟩ := x.sh.cell p c e0
  have fk : Same F (upd F p o) := fun b u e => by rw [upd_ne (ne_of_none e nF)]; exact e
  have ht : ∀ ps, o ≠ .tbl ps := fun ps z => by
    obtain ⟨o0, ho0, wo⟩ := c0.which
    rw [ho] at ho0
    cases ho0
    rw [z] at wo
    rcases wo with ⟨_, z⟩ | ⟨_, _, _, z⟩ <;> cases z
  refine ⟨⟨fun b u e => ?_, x.sh.sG, fun b => ?_, fun a d e => ?_, x.sh.tb.go (fun _ _ e _ _ => e) (fun _ _ e => upd_tbl ht e) fun _ _ e => e⟩, x.len, fun i => ?_, x.sep⟩
  · by_cases hb : b = p
    · subst hb; rw [upd_same] at e; rw [← e]; exact ho
    · rw [upd_ne hb] at e; exact x.sh.sF _ _ e
  · by_cases hb : b = p
    · subst hb; exact .inr nG
    · rw [upd_ne hb]; exact x.sh.dis b
  · by_cases ha : a = p
    · subst ha; simp at e
    · simp only [if_neg ha] at e
      obtain ⟨e1, e2, e3⟩ := x.sh.cell a d e
      exact ⟨by rw [upd_ne ha]; exact e1, e2, e3.mono fk rfl⟩
  · have q := x.slot i
    cases e : σ.at i with
    | own l =>
      rw [e] at q
      obtain ⟨a, vs, e1, e2, e3, e4, e5, r⟩ := q
      have ne : a ≠ p := fun z => by subst z; rw [e0] at e5; cases e5
      exact ⟨a, vs, e1, e2, by rw [upd_ne ne]; exact e3, e4, by simp only [if_neg ne]; exact e5, r.mono fk⟩
    | exc c d =>
      rw [e] at q
      obtain ⟨a, oe, dd, v, e1, e2, e3, e4, e5, r⟩ := q
      exact ⟨a, oe, dd, v, e1, e2, e3, e4, fk _ _ e5, r.mono fk⟩
    | un => trivial
    | val d =>
      rw [e] at q
      obtain ⟨v, e1, r⟩ := q
      exact ⟨v, e1, r.mono fk⟩
/-- an own list is frozen -/
theorem SR0.frz {i : Nat} {l : List D} (x : SR0 T pn F G σ h τ H) (e0 : σ.at i = .own l) : ∃ F', Same F F' ∧ SR0 T pn F' G (σ.put i (.val (.lst l))) h τ H := by
  have q0 := x.slot i
  rw [e0] at q0
  obtain ⟨p, vs, p1, p2, p3, p4, p5, rl⟩ := q0
  have fk : Same F (upd F p (.lst vs)) := fun b u e => by rw [upd_ne (ne_of_none e p3)]; exact e
  have hi : i < σ.length := by
    rcases Nat.lt_or_ge i σ.length with z | z
    · exact z
    · rw [Env.at_out z] at e0; cases e0
  refine ⟨upd F p (.lst vs), fk, ⟨fun b u e => ?_, x.sh.sG, fun b => ?_, fun a d e => ?_, x.sh.tb.go (fun _ _ e _ _ => e) (fun _ _ e => upd_tbl (fun _ z => by cases z) e) fun _ _ e => e⟩, Env.length_put.trans x.len, fun j => ?_, fun j k l m a hn e1 e2 e3 e4 => ?_⟩
  · by_cases hb : b = p
    · subst hb; rw [upd_same] at e; rw [← e]; exact p2
    · rw [upd_ne hb] at e; exact x.sh.sF _ _ e
  · by_cases hb : b = p
    · subst hb; exact .inr p4
    · rw [upd_ne hb]; exact x.sh.dis b
  · have ne : a ≠ p := fun z => by subst z; rw [p5] at e; cases e
    obtain ⟨e1, e2, e3⟩ := x.sh.cell a d e
    exact ⟨by rw [upd_ne ne]; exact e1, e2, e3.mono fk rfl⟩
  · by_cases hj : j = i
    · subst hj
      rw [Env.at_put_self hi]
      exact ⟨_, p1, .lst (SqL.of upd_same) (rl.mono fk)⟩
    · rw [Env.at_put_ne hj]
      have q := x.slot j
      cases e : σ.at j with
      | own l' =>
        rw [e] at q
        obtain ⟨a, vs', e1, e2, e3, e4, e5, r⟩ := q
        have ne : a ≠ p := fun z => by subst z; exact x.sep j i l' l _ hj e e0 e1 p1
        exact ⟨a, vs', e1, e2, by rw [upd_ne ne]; exact e3, e4, e5, r.mono fk⟩
      | exc c d =>
        rw [e] at q
        obtain ⟨a, oe, dd, v, e1, e2, e3, e4, e5, r⟩ := q
        exact ⟨a, oe, dd, v, e1, e2, e3, e4, fk _ _ e5, r.mono fk⟩
      | un => trivial
      | val d =>
        rw [e] at q
        obtain ⟨v, e1, r⟩ := q
        exact ⟨v, e1, r.mono fk⟩
  · have n1 : j ≠ i := fun z => by subst z; rw [Env.at_put_self hi] at e1; cases e1
    have n2 : k ≠ i := fun z => by subst z; rw [Env.at_put_self hi] at e2; cases e2
    rw [Env.at_put_ne n1] at e1
    rw [Env.at_put_ne n2] at e2
    exact x.sep j k l m a hn e1 e2 e3 e4
/-- a new own list -/
theorem SR0.newown {i : Nat} {l : List D} {p : Addr} {vs : List V} (x : SR0 T pn F G σ h τ H) (n : H p = none) (r : Reps T F l vs) : SR0 T pn F G (σ.put i (.own l)) h (τ.set i (some (.ref p))) (upd H p (.lst vs)) := by
  have g := Grow.beside (o := .lst vs) x.sh.sF n
  have y := x.grow g
  have nF : F p = none := x.sh.sF.free n
  have nG : G p = none := x.sh.sG.free n
  have nh : h p = none := by
    cases e : h p with
    | none => rfl
    | some c => obtain ⟨o, ho⟩ := (x.sh.cell p c e).2.2.there; rw [n] at ho; cases ho
  have old : ∀ j m a, σ.at j = .own m → τ[j]? = some (some (V.ref a)) → a ≠ p := fun j m a e1 e2 => by
    have q := x.slot j
    rw [e1] at q
    obtain ⟨a', vs', e1', e2', _⟩ := q
    rw [e2] at e1'
    cases e1'
    exact ne_of_none e2' n
  refine ⟨y.sh, by rw [Env.length_put, List.length_set]; exact x.len, fun j => ?_, fun j k l' m a hn e1 e2 e3 e4 => ?_⟩
  · by_cases hi : i < σ.length
    · by_cases hj : j = i
      · subst hj
        rw [Env.at_put_self hi, List.getElem?_set_self (x.len ▸ hi)]
        exact ⟨p, vs, rfl, upd_same, nF, nG, nh, r⟩
      · rw [Env.at_put_ne hj, List.getElem?_set_ne (Ne.symm hj)]
        exact y.slot j
    · rw [Env.put_out (Nat.le_of_not_lt hi), List.set_eq_of_length_le (by rw [← x.len]; exact Nat.le_of_not_lt hi)]
      exact y.slot j
  · by_cases hi : i < σ.length
    · by_cases h1 : j = i
      · subst h1
        have n2 : k ≠ j := fun z => hn z.symm
        rw [List.getElem?_set_self (x.len ▸ hi)] at e3
        rw [Env.at_put_ne n2] at e2
        rw [List.getElem?_set_ne (Ne.symm n2)] at e4
        have : p = a := V.ref.inj (Option.some.inj (Option.some.inj e3))
        exact old k m a e2 e4 this.symm
      · by_cases h2 : k = i
        · subst h2
          rw [List.getElem?_set_self (x.len ▸ hi)] at e4
          rw [Env.at_put_ne h1] at e1
          rw [List.getElem?_set_ne (Ne.symm h1)] at e3
          have : p = a := V.ref.inj (Option.some.inj (Option.some.inj e4))
          exact old j l' a e1 e3 this.symm
        · rw [Env.at_put_ne h1] at e1
          rw [Env.at_put_ne h2] at e2
          rw [List.getElem?_set_ne (Ne.symm h1)] at e3
          rw [List.getElem?_set_ne (Ne.symm h2)] at e4
          exact x.sep j k l' m a hn e1 e2 e3 e4
    · rw [Env.put_out (Nat.le_of_not_lt hi)] at e1 e2
      rw [List.set_eq_of_length_le (by rw [← x.len]; exact Nat.le_of_not_lt hi)] at e3 e4
      exact x.sep j k l' m a hn e1 e2 e3 e4
/-- an own list is written -/
theorem SR0.setown {i : Nat} {l m : List D} {p : Addr} {vs us : List V} (x : SR0 T pn F G σ h τ H) (e0 : σ.at i = .own l) (hp : τ[i]? = some (some (V.ref p))) (r : Reps T F m us) : SR0 T pn F G (σ.put i (.own m)) h τ (upd H p (.lst us)) := by
  have q0 := x.slot i
  rw [e0] at q0
  obtain ⟨p', vs', p1, p2, p3, p4, p5, rl⟩ := q0
  have : p = p' := by rw [hp] at p1; exact V.ref.inj (Option.some.inj (Option.some.inj p1))
  subst this
  have hi : i < σ.length := by
    rcases Nat.lt_or_ge i σ.length with z | z
    · exact z
    · rw [Env.at_out z] at e0; cases e0
  have at_ : ∀ b, b ≠ p → upd H p (.lst us) b = H b := fun b hb => upd_ne hb
  refine ⟨⟨fun b u e => by rw [at_ b (ne_of_none e p3)]; exact x.sh.sF _ _ e, fun b u e => by rw [at_ b (ne_of_none e p4)]; exact x.sh.sG _ _ e, x.sh.dis, fun a d e => ?_, x.sh.tb.go (fun b u e n1 n2 => (upd_ne (fun z => by subst z; rw [p2] at e; cases e; exact n1 _ rfl)).trans e) (fun _ _ e => e) fun _ _ e => e⟩, Env.length_put.trans x.len, fun j => ?_, fun j k l' m' a hn e1 e2 e3 e4 => ?_⟩
  · have ne : a ≠ p := fun z => by subst z; rw [p5] at e; cases e
    obtain ⟨e1, e2, e3⟩ := x.sh.cell a d e
    exact ⟨e1, e2, e3.mono (Same.refl _) (at_ a ne)⟩
  · by_cases hj : j = i
    · subst hj
      rw [Env.at_put_self hi]
      exact ⟨p, us, hp, upd_same, p3, p4, p5, r⟩
    · rw [Env.at_put_ne hj]
      have q := x.slot j
      cases e : σ.at j with
      | own l' =>
        rw [e] at q
        obtain ⟨a, vs', e1, e2, e3, e4, e5, r⟩ := q
        have ne : a ≠ p := fun z => by subst z; exact x.sep j i l' l _ hj e e0 e1 hp
        exact ⟨a, vs', e1, by rw [at_ a ne]; exact e2, e3, e4, e5, r⟩
      | exc c d => rw [e] at q; exact q
      | un => trivial
      | val d => rw [e] at q; exact q
  · have own : ∀ {j m}, (σ.put i (.own m)).at j = .own l' → True := fun _ => trivial
    have get : ∀ j m', (σ.put i (.own m)).at j = .own m' → ∃ m'', σ.at j = .own m'' := fun j m' e => by
      by_cases hj : j = i
      · subst hj; exact ⟨l, e0⟩
      · rw [Env.at_put_ne hj] at e; exact ⟨_, e⟩
    obtain ⟨m1, e1⟩ := get j l' e1
    obtain ⟨m2, e2⟩ := get k m' e2
    exact x.sep j k m1 m2 a hn e1 e2 e3 e4
/-- what a callee may change, and what comes back -/
theorem SR0.call (x : SR0 T pn F G σ h τ H) : ∃ G', SH T F G' h H ∧ ∀ F' h' H', Same F F' → SH T F' G' h' H' → SR0 T pn F' G σ h' τ H' := by
  classical
  let own : Addr → Prop := fun b => ∃ i l, σ.at i = .own l ∧ τ[i]? = some (some (V.ref b))
  have oat : ∀ b, own b → ∃ vs, H b = some (.lst vs) ∧ F b = none ∧ G b = none ∧ h b = none := fun b ⟨i, l, e1, e2⟩ => by
    have q := x.slot i
    rw [e1] at q
    obtain ⟨a, vs, q1, q2, q3, q4, q5, _⟩ := q
    rw [e2] at q1
    cases q1
    exact ⟨vs, q2, q3, q4, q5⟩
  refine ⟨fun b => if own b then H b else G b, ⟨x.sh.sF, fun b o e => ?_, fun b => ?_, fun a c e => ?_, x.sh.tb.tabs, x.sh.tb.nF, fun b ps e => ?_⟩, fun F' h' H' sF sh => ⟨⟨sh.sF, fun b o e => ?_, fun b => ?_, fun a c e => ?_, sh.tb.tabs, sh.tb.nF, x.sh.tb.nG⟩, x.len, fun i => ?_, x.sep⟩⟩
  · by_cases ob : own b
    · simp only [if_pos ob] at e; exact e
    · simp only [if_neg ob] at e; exact x.sh.sG _ _ e
  · by_cases ob : own b
    · obtain ⟨_, _, q, _⟩ := oat b ob; exact .inl q
    · simp only [if_neg ob]; exact x.sh.dis b
  · obtain ⟨e1, e2, e3⟩ := x.sh.cell a c e
    have ob : ¬ own a := fun ob => by obtain ⟨_, _, _, _, q⟩ := oat a ob; rw [e] at q; cases q
    refine ⟨e1, ?_, e3⟩
    simp only [if_neg ob]; exact e2
  · by_cases ob : own b
    · obtain ⟨vs, q, _⟩ := oat b ob
      simp only [if_pos ob] at e
      rw [q] at e
      cases e
    · simp only [if_neg ob] at e; exact x.sh.tb.nG b ps e
  · have ob : ¬ own b := fun ob => by obtain ⟨_, _, _, q, _⟩ := oat b ob; rw [q] at e; cases e
    exact sh.sG b o (by simp only [if_neg ob]; exact e)
  · rcases sh.dis b with z | z
    · exact .inl z
    · by_cases ob : own b
      · obtain ⟨_, _, _, q, _⟩ := oat b ob; exact .inr q
      · simp only [if_neg ob] at z; exact .inr z
  · obtain ⟨e1, e2, e3⟩ := sh.cell a c e
    refine ⟨e1, ?_, e3⟩
    by_cases ob : own a
    · obtain ⟨_, _, _, q, _⟩ := oat a ob; exact q
    · simp only [if_neg ob] at e2; exact e2
  · have q := x.slot i
    cases e : σ.at i with
    | own l =>
      rw [e] at q
      obtain ⟨a, vs, e1, e2, e3, e4, e5, r⟩ := q
      have ob : own a := ⟨i, l, e, e1⟩
      have hG : (fun b => if own b then H b else G b) a = some (.lst vs) := by simp only [if_pos ob]; exact e2
      refine ⟨a, vs, e1, sh.sG _ _ hG, ?_, e4, ?_, r.mono sF⟩
      · rcases sh.dis a with z | z
        · exact z
        · cases hG.symm.trans z
      · cases eh : h' a with
        | none => rfl
        | some c =>
          have z := (sh.cell a c eh).2.1
          cases hG.symm.trans z
    | exc c d =>
      rw [e] at q
      obtain ⟨a, oe, dd, v, e1, e2, e3, e4, e5, r⟩ := q
      exact ⟨a, oe, dd, v, e1, e2, e3, e4, sF _ _ e5, r.mono sF⟩
    | un => trivial
    | val d =>
      rw [e] at q
      obtain ⟨v, e1, r⟩ := q
      exact ⟨v, e1, r.mono sF⟩
end
/-! ### with what was there at the entry -/
structure Lk where
  pn : List (Addr × Obj)
  F0 : Hp
  G0 : Hp
structure SR (T : Tb) (lk : Lk) (F G : Hp) (σ : Env) (h : AH) (τ : L2.St) (H : Hp) : Prop where
  s : SR0 T lk.pn F G σ h τ H
  lF : Same lk.F0 F
  lG : G = lk.G0
section
variable {T : Tb} {lk : Lk} {F F' G : Hp} {σ : Env} {h h' : AH} {τ : L2.St} {H H' : Hp}
theorem SR.sh (x : SR T lk F G σ h τ H) : SH T F G h H := x.s.sh
theorem SR.slot (x : SR T lk F G σ h τ H) : ∀ i, SlotR T lk.pn F G h H τ[i]? (σ.at i) := x.s.slot
theorem SR.len (x : SR T lk F G σ h τ H) : σ.length = τ.length := x.s.len
theorem SR.grow (x : SR T lk F G σ h τ H) (g : Grow F H F' H') : SR T lk F' G σ h τ H' := ⟨x.s.grow g, x.lF.trans g.f, x.lG⟩
theorem SR.val {i : Nat} {d : D} (x : SR T lk F G σ h τ H) (e : σ.at i = .val d) : ∃ v, τ[i]? = some (some v) ∧ Rep T F d v := x.s.val e
theorem SR.store {i : Nat} {d : D} {v : V} (x : SR T lk F G σ h τ H) (r : Rep T F d v) : SR T lk F G (σ.put i (.val d)) h (τ.set i (some v)) H := ⟨x.s.store r, x.lF, x.lG⟩
theorem SR.forget {i : Nat} {o : Option V} (x : SR T lk F G σ h τ H) : SR T lk F G (σ.put i .un) h (τ.set i o) H := ⟨x.s.forget, x.lF, x.lG⟩
theorem SR.wipe (x : SR T lk F G σ h τ H) (vs : List Nat) : SR T lk F G (σ.wipe vs) h (L2.wipe τ vs) H := ⟨x.s.wipe vs, x.lF, x.lG⟩
theorem SR.nox {G2 : Hp} (x : SR T lk F G σ h τ H) {pn' : List (Addr × Obj)} (sF : Same F F') (sh : SH T F' G2 h' H') : SR T ⟨pn', F', G2⟩ F' G2 σ.nox h' τ H' := ⟨x.s.nox sF sh, Same.refl _, rfl⟩
theorem SR.newcell {p : Addr} {o : HO} {c : Cell} (x : SR T lk F G σ h τ H) (n : H p = none) (hc : CellR T F (upd H p o) p c) : SR T lk F G σ (h.put p c) τ (upd H p o) := ⟨x.s.newcell n hc, x.lF, x.lG⟩
theorem SR.write {p : Addr} {o : HO} {c c' : Cell} (x : SR T lk F G σ h τ H) (e0 : h p = some c') (hc : CellR T F (upd H p o) p c) : SR T lk F G σ (h.put p c) τ (upd H p o) := ⟨x.s.write e0 hc, x.lF, x.lG⟩
theorem SR.freeze {p : Addr} {o : HO} {c : Cell} (x : SR T lk F G σ h τ H) (e0 : h p = some c) (ho : H p = some o) : SR T lk (upd F p o) G σ (fun b => if b = p then none else h b) τ H :=
  ⟨x.s.freeze e0 ho, x.lF.trans fun b u e => by rw [upd_ne (ne_of_none e (x.s.sh.cell p c e0).1)]; exact e, x.lG⟩
theorem SR.frz {i : Nat} {l : List D} (x : SR T lk F G σ h τ H) (e0 : σ.at i = .own l) : ∃ F', Same F F' ∧ SR T lk F' G (σ.put i (.val (.lst l))) h τ H := by
  obtain ⟨F', s, y⟩ := x.s.frz e0
  exact ⟨F', s, y, x.lF.trans s, x.lG⟩
theorem SR.newown {i : Nat} {l : List D} {p : Addr} {vs : List V} (x : SR T lk F G σ h τ H) (n : H p = none) (r : Reps T F l vs) : SR T lk F G (σ.put i (.own l)) h (τ.set i (some (.ref p))) (upd H p (.lst vs)) := ⟨x.s.newown n r, x.lF, x.lG⟩
theorem SR.setown {i : Nat} {l m : List D} {p : Addr} {us : List V} (x : SR T lk F G σ h τ H) (e0 : σ.at i = .own l) (hp : τ[i]? = some (some (V.ref p))) (r : Reps T F m us) : SR T lk F G (σ.put i (.own m)) h τ (upd H p (.lst us)) := ⟨x.s.setown (vs := us) e0 hp r, x.lF, x.lG⟩
/-- tables grow -/
theorem SH.tabs (x : SH T F G h H) (e : LamX.ExtN H H') (t : LamX.Tabs T.lam H') : SH T F G h H' := by
  refine ⟨fun b o q => e b o (x.sF b o q) fun ps z => x.tb.nF b ps (by rw [q, z]), fun b o q => e b o (x.sG b o q) fun ps z => x.tb.nG b ps (by rw [q, z]), x.dis, fun a c q => ?_, t, x.tb.nF, x.tb.nG⟩
  obtain ⟨e1, e2, e3⟩ := x.cell a c q
  obtain ⟨o, ho, w⟩ := e3.which
  refine ⟨e1, e2, e3.mono (Same.refl _) ?_⟩
  rw [ho]
  refine e _ _ ho fun ps z => ?_
  rw [z] at w
  rcases w with ⟨_, z⟩ | ⟨_, _, _, z⟩ <;> cases z
theorem SR.call (x : SR T lk F G σ h τ H) : ∃ G', SH T F G' h H ∧ ∀ F' h' H', Same F F' → SH T F' G' h' H' → SR T lk F' G σ h' τ H' := by
  obtain ⟨G', sh, b⟩ := x.s.call
  exact ⟨G', sh, fun F' h' H' s sh' => ⟨b F' h' H' s sh', x.lF.trans s, x.lG⟩⟩
end
end FF
namespace L2
open PySem PySem.Spec PyProof.Rows
/-! ### ranges of integers of any size -/
theorem turn_long {P : Program} {w : World} {K : PySem.W.Frag} {tg : Expr} (it : Addr) (lo : Int) (n : Nat) : Turn P w K tg (Itr lo n) [it] it (fun i h => IsLongIter h it (lo + (i : Nat) * 1) ((n : Int) - (i : Nat)) 1) where
  mem := by simp
  obj := fun i h st b hb => by
    have e : b = it := by simpa using hb
    subst e
    exact ⟨_, st, fun v z => by
      have z' : Data.fields _ = Data.cell v := z
      cases z'⟩
  keep := fun i h h' st k => k it (by simp) _ st
  item := by
    intro X hP hw hK hc i pins s σ H E I hf st hg
    subst hP hw hK
    obtain ⟨f0, f1, f2, f3, f4, f5⟩ := hf it (by simp)
    have W := Walks.longrange (prog := X.prog) (w := X.w) (I.ok.hd hc) it lo 1 n
    refine W.item i s _ _ hg st fun v h' tk hv st' kk => ?_
    obtain ⟨t, rfl⟩ := hv
    have I1 : Inv X pins σ H { s with heap := h', toks := tk } := I.turned (fun b o hb e => kk b o (by simpa using hb) e) f0 f1 f3 f4 f5
    refine ⟨_, rfl, go_of (s := { s with heap := h', toks := tk }) (n := "longrange_iterator") st' rfl rfl (by decide) ⟨.int (lo + i), H, I1, ⟨t, ?_⟩, ⟨rfl, rfl⟩, st', fun b hb => (hf b hb).1⟩⟩
    rw [Int.mul_one]
  done := by
    intro X hP hw hK hc i pins s σ H E I hf st hg
    subst hP hw hK
    obtain ⟨f0, f1, f2, f3, f4, f5⟩ := hf it (by simp)
    exact wpAny_pyNext_long_end (I.ok.hd hc) st (by have : n ≤ i := hg; omega) fun h' eb => ⟨rfl, I.turned (t' := s.toks) (fun b o hb e => eb b o hb e) f0 f1 f3 f4 f5⟩
  self := fun _ _ _ _ _ st h => wpAny_pyIter_longiter st h
section
variable {X : Cx} {tg : Expr}
theorem range_it_any {pins : List (Addr × Obj)} {σ : St} {H : Hp} {s : Shared} {R : It → Hp → Prop} {E : Value → Shared → Prop} {lo hi : Int} {t u v : Tok} {tk : Nat} (I : Inv X pins σ H s)
    (q : R (Itr lo (hi - lo).toNat) H) : wpAny (model X.prog X.w) X.A (pyIter (.ref s.heap.objs.size)) (PIE X pins σ tg R) E { s with heap := s.heap.push { cls := .type "range", data := .fields #[.int lo t, .int hi u, .int 1 v] }, toks := tk } := by
  have I1 : Inv X pins σ H { s with heap := s.heap.push { cls := .type "range", data := .fields #[.int lo t, .int hi u, .int 1 v] }, toks := tk } := I.kept fun b o e => Heap.get?_push_of_some _ e
  have e1 : lo + ((0 : Nat) : Int) * 1 = lo := by simp
  have e2 : (((hi - lo).toNat : Nat) : Int) - ((0 : Nat) : Int) = Builtin.Range.rangeSize lo hi 1 := by rw [rangeSize_one]; split <;> omega
  have fp : ∀ b ∈ [(s.heap.push { cls := .type "range", data := .fields #[.int lo t, .int hi u, .int 1 v] }).objs.size], FpOk X pins H b := fun b hb => by
    have e : b = (s.heap.push { cls := .type "range", data := .fields #[.int lo t, .int hi u, .int 1 v] }).objs.size := by simpa using hb
    subst e
    exact I1.fpOk (Nat.le_refl _) (I1.hok.fresh (Nat.le_refl _))
  cases hs : Builtin.Range.small lo hi 1 with
  | true =>
    refine wpAny_pyIter_range (IsRange.new ..) hs ?_
    refine ⟨(s.heap.push { cls := .type "range", data := .fields #[.int lo t, .int hi u, .int 1 v] }).objs.size, [(s.heap.push { cls := .type "range", data := .fields #[.int lo t, .int hi u, .int 1 v] }).objs.size], _, _, H, rfl,
      I1.kept (t' := tk) fun b o e => Heap.get?_push_of_some _ e, turn_range _ lo (hi - lo).toNat, ?_, fp, q⟩
    show IsRangeIter _ _ (lo + ((0 : Nat) : Int) * 1) ((((hi - lo).toNat : Nat) : Int) - ((0 : Nat) : Int)) 1
    rw [e1, e2]
    exact Heap.get?_push_size _ rfl
  | false =>
    refine wpAny_pyIter_longrange (IsRange.new ..) hs ?_
    refine ⟨(s.heap.push { cls := .type "range", data := .fields #[.int lo t, .int hi u, .int 1 v] }).objs.size, [(s.heap.push { cls := .type "range", data := .fields #[.int lo t, .int hi u, .int 1 v] }).objs.size], _, _, H, rfl,
      I1.kept (t' := tk) fun b o e => Heap.get?_push_of_some _ e, turn_long _ lo (hi - lo).toNat, ?_, fp, q⟩
    show IsLongIter _ _ (lo + ((0 : Nat) : Int) * 1) ((((hi - lo).toNat : Nat) : Int) - ((0 : Nat) : Int)) 1
    rw [e1, e2]
    exact Heap.get?_push_size _ rfl
def iRng1A (ta : TA) : TI := fun σ H R => ta σ H fun vs H1 => ∃ j : Int, vs = [.int j] ∧ R (Itr 0 j.toNat) H1
def iRng2A (ta : TA) : TI := fun σ H R => ta σ H fun vs H1 => ∃ i j : Int, vs = [.int i, .int j] ∧ R (Itr i (j - i).toNat) H1
theorem pi_range1A {a : Expr} {ta : TA} {p pos : Pos} (hg : Gl X "range") (hm : X.mg "range" = none) (ha : PA X [a] ta) (hs : starEach [a] X.env = [(false, eval a X.env)] := by rfl) : PI X tg (.Call (.Name "range" p) [a] [] pos) (iRng1A ta) := by
  refine ⟨fun pins s σ H R I h => ?_⟩
  refine Call_ (ld_blt I hg hm boot_range (PyProof.Rows.callWith_type1 (thn (ha.run pos pins s σ H _ I h) fun us s1 ⟨vs, H1, I1, r1, q1⟩ => ?_) hs rfl))
  obtain ⟨j, e, q⟩ := q1
  subst e
  cases r1 with
  | cons r rr =>
    cases rr
    obtain ⟨t, rfl⟩ := r
    exact call_range_1 (range_it_any I1 (by simpa using q))
theorem pi_range2A {a b : Expr} {ta : TA} {p pos : Pos} (hg : Gl X "range") (hm : X.mg "range" = none) (ha : PA X [a, b] ta) (hs : starEach [a, b] X.env = [(false, eval a X.env), (false, eval b X.env)] := by rfl) (hs2 : starEach [b] X.env = [(false, eval b X.env)] := by rfl) :
    PI X tg (.Call (.Name "range" p) [a, b] [] pos) (iRng2A ta) := by
  refine ⟨fun pins s σ H R I h => ?_⟩
  refine Call_ (ld_blt I hg hm boot_range (PyProof.Rows.callWith_type1 (thn (ha.run pos pins s σ H _ I h) fun us s1 ⟨vs, H1, I1, r1, q1⟩ => ?_) (by rw [hs, hs2]) (by rw [hs2]; rfl)))
  obtain ⟨i, j, e, q⟩ := q1
  subst e
  cases r1 with
  | cons r rr =>
    cases rr with
    | cons r' rr =>
      cases rr
      obtain ⟨t, rfl⟩ := r
      obtain ⟨t', rfl⟩ := r'
      exact call_range_2 (range_it_any I1 q)
end
end L2
namespace FF
open PySem PySem.Spec PyProof.Rows L2
/-! ### a str times an integer; the integer of digits -/
theorem foldl_reps (c : List Nat) : ∀ (k : Nat) (acc : List Nat), ((List.replicate k c.toArray).foldl (· ++ ·) acc.toArray) = (acc ++ (List.replicate k c).flatten).toArray
  | 0, acc => by simp
  | k + 1, acc => by
    rw [List.replicate_succ, List.foldl_cons, List.append_toArray, foldl_reps c k, List.replicate_succ, List.flatten_cons, List.append_assoc]
theorem mul_text {a : List Nat} {k : Int} (h : 0 ≤ k) : Txt.mul (sOf a) k = sOf (List.replicate k.toNat a).flatten := by
  unfold Txt.mul
  by_cases h1 : k < 1
  · rw [if_pos h1, show k.toNat = 0 by omega]; rfl
  · rw [if_neg h1]
    split
    · rename_i hc
      rw [Bool.or_eq_true, beq_iff_eq, beq_iff_eq] at hc
      rcases hc with hc | hc
      · rw [hc]
        show sOf a = sOf (a ++ [])
        rw [List.append_nil]
      · have : a = [] := by
          have : a.toArray.size = 0 := hc
          rw [List.size_toArray] at this
          exact List.length_eq_zero_iff.mp this
        subst this
        congr 1
        have : ∀ n : Nat, (List.replicate n ([] : List Nat)).flatten = [] := fun n => by simp
        rw [this]
    · have := foldl_reps a k.toNat []
      rw [List.nil_append] at this
      exact congrArg _ this
theorem op_mul_text {X : Cx} : OpR X (binaryOp .Mult) (fun x y H Q => ∃ a k, x = .str (sOf a) ∧ y = .int k ∧ (0 ≤ k ∧ k ≤ 4000 ∧ a.length ≤ 4000) ∧ Q (.str (sOf (List.replicate k.toNat a).flatten)) H) := by
  intro pins s σ H x y v u Q I rx ry h
  obtain ⟨a, k, rfl, rfl, ⟨h0, h1, h2⟩, q⟩ := h
  obtain ⟨t, rfl⟩ := rx
  obtain ⟨t', rfl⟩ := ry
  have hl : (sOf a).length = a.length := List.size_toArray
  have ok : MulOk (sOf a) k := mulOk_of 4000 4000 (by rw [hl]; exact h2) (by omega) (by omega) (by decide) (by decide)
  refine SB.mul ok fun t2 tk => ⟨.str (sOf (List.replicate k.toNat a).flatten), H, I.tok _, ⟨t2, ?_⟩, q⟩
  rw [mul_text h0]
open NumText in
theorem digits_go : ∀ (s : List Nat) (acc : Array Nat) (b : Bool), (∀ c ∈ s, 48 ≤ c ∧ c < 58) → s ≠ [] ∨ b = true → s.foldlM (NumText.step 10) (acc, b) = some ((acc ++ (s.map (· - 48)).toArray), true)
  | [], acc, b, _, hb => by
    rcases hb with hb | hb
    · exact absurd rfl hb
    · subst hb; simp
  | c :: r, acc, b, h, _ => by
    have hc := h c List.mem_cons_self
    have e : NumText.step 10 (acc, b) c = some (acc.push (c - 48), true) := by
      unfold NumText.step digit?
      have e1 : (c == 95) = false := by simp; omega
      have e2 : (decide (48 ≤ c) && decide (c ≤ 57)) = true := by simp; omega
      rw [e1, e2]
      show (if c - 48 < 10 then some (acc.push (c - 48), true) else none) = _
      rw [if_pos (by omega)]
    rw [List.foldlM_cons, e]
    show r.foldlM (NumText.step 10) (acc.push (c - 48), true) = _
    rw [digits_go r _ _ (fun x hx => h x (List.mem_cons_of_mem _ hx)) (.inr rfl)]
    simp
theorem take_all {p : Nat → Bool} : ∀ (s : List Nat), (∀ c ∈ s, p c = true) → s.takeWhile p = s
  | [], _ => rfl
  | c :: r, h => by rw [List.takeWhile_cons, h c List.mem_cons_self, if_pos rfl, take_all r fun x m => h x (List.mem_cons_of_mem _ m)]
theorem dec_fold : ∀ (s : List Nat) (a : Nat), (s.map (· - 48)).foldl (fun acc d => acc * 10 + d) a = s.foldl (fun a c => a * 10 + (c - 48)) a
  | [], _ => rfl
  | c :: r, a => by
    rw [List.map_cons, List.foldl_cons, List.foldl_cons]
    exact dec_fold r _
open NumText in
theorem int_text {s : List Nat} (h0 : s ≠ []) (h1 : s.length ≤ 640) (h2 : digS s = true) : PySem.intText? (sOf s) = some ((decN s : Nat) : Int) := by
  have hc : ∀ c ∈ s, 48 ≤ c ∧ c < 58 := fun c m => of_decide_eq_true (List.all_eq_true.mp h2 c m)
  have t1 : numTextOf (sOf s) = s := by
    unfold numTextOf
    rw [if_pos]
    rw [← Array.all_toList]
    show s.all _ = true
    exact List.all_eq_true.mpr fun c m => by have := hc c m; simp; omega
  have t2 : numSeenOf (sOf s) = s := by
    unfold numSeenOf
    rw [t1]
    exact take_all s fun c m => by have := hc c m; simp; omega
  have nb : ∀ c, 48 ≤ c → blank c = false := fun c m => by unfold blank; simp; omega
  have d1 : s.dropWhile blank = s := by
    cases s with
    | nil => rfl
    | cons c r => rw [List.dropWhile_cons, nb c (hc c List.mem_cons_self).1]; rfl
  have sg : sign s = (false, s) := by
    unfold sign
    cases s with
    | nil => rfl
    | cons c r =>
      have := hc c List.mem_cons_self
      split
      · rename_i e; cases e; omega
      · rename_i e; cases e; omega
      · rfl
  have co : core s = s := by
    unfold core
    rw [d1, sg]
    have : s.reverse.dropWhile blank = s.reverse := by
      cases e : s.reverse with
      | nil => rfl
      | cons c r =>
        have : c ∈ s := by rw [← List.mem_reverse, e]; exact List.mem_cons_self
        rw [List.dropWhile_cons, nb c (hc c this).1]; rfl
    rw [this, List.reverse_reverse]
  have dg : digits? 10 s = some (s.map (· - 48)).toArray := by
    unfold digits?
    rw [digits_go s #[] false hc (.inl h0)]
    simp
  unfold PySem.intText?
  rw [t1, t2, if_pos (by simp), co, dg]
  show (if (s.map (· - 48)).toArray.size ≤ 4300 then _ else _) = _
  rw [if_pos (by rw [List.size_toArray, List.length_map]; omega), d1, sg]
  unfold worth
  rw [if_neg (show ¬ false = true by decide), List.foldl_toArray, dec_fold]
  rfl
end FF
namespace FF
open PySem PySem.Spec PyProof.Rows L2
structure RRt where
  F0 : Hp
  G0 : Hp
  R : Exc → Env → AH → Prop
abbrev RRt.lk (RR : RRt) (X : Cx) : Lk := ⟨X.pn, RR.F0, RR.G0⟩
section
variable {X : Cx} {T : Tb}
theorem PE.imp {e : Expr} {t t' : TE} (p : PE X e t) (h : ∀ τ H Q, t' τ H Q → t τ H Q) : PE X e t' := ⟨fun pins s τ H Q I q => p.run pins s τ H Q I (h τ H Q q)⟩
theorem PT.imp {e : Expr} {t t' : TT} (p : PT X e t) (h : ∀ τ H Q, t' τ H Q → t τ H Q) : PT X e t' := ⟨fun pins s τ H Q I q => p.run pins s τ H Q I (h τ H Q q)⟩
theorem PW.imp {e : Expr} {t t' : TT} (p : PW X e t) (h : ∀ τ H Q, t' τ H Q → t τ H Q) : PW X e t' := ⟨fun wh pins s τ H Q I q => p.run wh pins s τ H Q I (h τ H Q q)⟩
theorem PA.imp {e : List Expr} {t t' : TA} (p : PA X e t) (h : ∀ τ H Q, t' τ H Q → t τ H Q) : PA X e t' := ⟨fun pos pins s τ H Q I q => p.run pos pins s τ H Q I (h τ H Q q)⟩
theorem PS.imp {e : Stmt} {t t' : TS} (p : PS X e t) (h : ∀ D τ H, t' D τ H → t D τ H) : PS X e t' := ⟨fun pins s τ H D I q => p.run pins s τ H D I (h D τ H q)⟩
theorem PSs.imp {e : List Stmt} {t t' : TS} (p : PSs X e t) (h : ∀ D τ H, t' D τ H → t D τ H) : PSs X e t' := ⟨fun pins s τ H D I q => p.run pins s τ H D I (h D τ H q)⟩
/-- our reading of an expression, in the layer's words -/
def LE (T : Tb) (X : Cx) (RR : RRt) (w : Env → AH → QE → RE → Prop) : TE := fun τ H Q =>
  ∃ F G σ h Qd, SR T (RR.lk X) F G σ h τ H ∧ w σ h Qd (fun x h' => RR.R x σ h') ∧ ∀ d h' v F' H', Same F F' → SR T (RR.lk X) F' G σ h' τ H' → Rep T F' d v → Qd d h' → Q v H'
def LT (T : Tb) (X : Cx) (RR : RRt) (w : Env → AH → QE → RE → Prop) : TT := fun τ H Q =>
  ∃ F G σ h, ∃ Qd : Bool → AH → Prop, SR T (RR.lk X) F G σ h τ H ∧ w σ h (fun x h' => match x with | .bl k => Qd k h' | _ => False) (fun x h' => RR.R x σ h') ∧ ∀ k h' F' H', Same F F' → SR T (RR.lk X) F' G σ h' τ H' → Qd k h' → Q k H'
def LA (T : Tb) (X : Cx) (RR : RRt) (n : Nat) (w : Env → AH → (List D → AH → Prop) → RE → Prop) : TA := fun τ H Q =>
  ∃ F G σ h Qd, SR T (RR.lk X) F G σ h τ H ∧ w σ h Qd (fun x h' => RR.R x σ h') ∧ ∀ d h' v F' H', d.length = n → Same F F' → SR T (RR.lk X) F' G σ h' τ H' → Reps T F' d v → Qd d h' → Q v H'
variable {RR : RRt}
theorem LT.imp {w w' : Env → AH → QE → RE → Prop} {τ : L2.St} {H : Hp} {Q : Bool → Hp → Prop} (h : LT T X RR w τ H Q) (i : ∀ σ h Qd R, w σ h Qd R → w' σ h Qd R) : LT T X RR w' τ H Q := by
  obtain ⟨F, G, σ, h0, Qd, sr, q, k⟩ := h
  exact ⟨F, G, σ, h0, Qd, sr, i _ _ _ _ q, k⟩
/-! ### operators by their values -/
/-- what a data operation is, in the layer's words -/
def L2op (T : Tb) (X : Cx) (f : D → D → AH → QE → Prop) : R2 := fun x y H Q =>
  ∃ F G σ h τ dx dy Qd, SR0 T X.pn F G σ h τ H ∧ Rep T F dx x ∧ Rep T F dy y ∧ f dx dy h Qd ∧ ∀ z h' v F' H', Same F F' → SR0 T X.pn F' G σ h' τ H' → Rep T F' z v → Qd z h' → Q v H'
def LNop (T : Tb) (X : Cx) (f : List D → AH → QE → Prop) : List V → Hp → VK → Prop := fun x H Q =>
  ∃ F G σ h τ dx Qd, SR0 T X.pn F G σ h τ H ∧ Reps T F dx x ∧ f dx h Qd ∧ ∀ z h' v F' H', Same F F' → SR0 T X.pn F' G σ h' τ H' → Rep T F' z v → Qd z h' → Q v H'
theorem le_op {wa wb : Env → AH → QE → RE → Prop} {f : D → D → AH → QE → Prop} {τ : L2.St} {H : Hp} {Q : VK}
    (h : LE T X RR (fun σ h Q R => wa σ h (fun x h => wb σ h (fun y h => f x y h Q) R) R) τ H Q) : tOp (L2op T X f) (LE T X RR wa) (LE T X RR wb) τ H Q := by
  obtain ⟨F, G, σ, h, Qd, sr, w, k⟩ := h
  exact ⟨F, G, σ, h, _, sr, w, fun dx h1 vx F1 H1 s1 sr1 r1 w1 => ⟨F1, G, σ, h1, _, sr1, w1, fun dy h2 vy F2 H2 s2 sr2 r2 w2 =>
    ⟨F2, G, σ, h2, τ, dx, dy, Qd, sr2.s, r1.mono s2, r2, w2, fun z h' v F' H' s3 sr3 r3 q => k z h' v F' H' (s1.trans (s2.trans s3)) ⟨sr3, sr2.lF.trans s3, sr2.lG⟩ r3 q⟩⟩⟩
/-! ### ints -/
theorem mulOk_ok {i j : Int} (h : mulOk i j) : IntMulOk i j := by
  have b : ∀ x : Int, Builtin.Int.intBits x = bitsI x := fun x => by
    unfold Builtin.Int.intBits bitsI
    by_cases e : x = 0
    · subst e; rfl
    · rw [if_neg (by simpa using e), if_neg e]
  have e : bitsLine = 134217728 := by decide
  unfold IntMulOk
  intro z
  simp only [Bool.and_eq_true, decide_eq_true_eq, b, shortFactorBits_eq, Builtin.Int.intTooBig, e] at z
  unfold mulOk at h
  omega
theorem bits_eq (x : Int) : Builtin.Int.intBits x = bitsI x := by
  unfold Builtin.Int.intBits bitsI
  by_cases e : x = 0
  · subst e; rfl
  · rw [if_neg (by simpa using e), if_neg e]
theorem noPy {i j : Int} (h : bitsI j ≤ 9000) : Builtin.divisionGoesByPylong i j = false := PyProof.noPylong_of_log2 (by
  unfold bitsI at h
  by_cases e : j = 0
  · subst e; decide
  · rw [if_neg e] at h; omega)
def opM : BOp → Operator
  | .add => .Add | .sub => .Sub | .mul => .Mult | .fdiv => .FloorDiv | .mod => .Mod | .pow => .Pow | .shl => .LShift | .shr => .RShift
def copM : COp → CmpOp
  | .eq => .Eq | .ne => .NotEq | .lt => .Lt | .le => .LtE | .gt => .Gt | .ge => .GtE | .is_ => .Is | .isn => .IsNot | .in_ => .In | .nin => .NotIn
theorem op_mulG : OpR X (binaryOp .Mult) (rI mulOk fun i j => .int (i * j)) := opI fun _ _ _ _ _ _ _ hc q => mul_int q (mulOk_ok hc)
theorem op_fdivG : OpR X (binaryOp .FloorDiv) (rI (fun _ j => j ≠ 0 ∧ bitsI j ≤ 9000) fun i j => .int (i.fdiv j)) := opI fun _ _ _ _ _ _ _ hc q => floordiv_int hc.1 q (.inl (noPy hc.2))
theorem op_shlG : OpR X (binaryOp .LShift) (rI (fun i j => 0 ≤ j ∧ (bitsI i : Int) + j ≤ 134217728) fun i j => .int (i * 2 ^ j.toNat)) := opI fun i j _ _ _ _ _ hc q => by
  have e : (2 : Int) ^ 27 = 134217728 := by decide
  refine lshift_int hc.1 ?_ q
  rw [bits_eq, e]
  exact hc.2
theorem SL_eq : SL = sizeLine := sizeLine_eq.symm
/-- a list + a list, of any standing -/
theorem op_catS : OpR X (binaryOp .Add) (fun x y H Q => ∃ l b xs zs, x = .ref l ∧ y = .ref b ∧ SqL X.K H l xs ∧ SqL X.K H b zs ∧ xs.length + zs.length ≤ sizeLine ∧ ∀ p, H p = none → Q (.ref p) (upd H p (.lst (xs ++ zs)))) := by
  intro pins s σ H x y v u Q I rx ry h
  obtain ⟨l, b, xs, zs, rfl, rfl, hH, hB, hz, q⟩ := h
  cases rx
  cases ry
  obtain ⟨its, r, p1, hl⟩ := I.list hH
  obtain ⟨its2, r2, p2, hl2⟩ := I.list hB
  obtain ⟨⟨cls, dd, data, sl⟩, n, ho, hc, hdd, hd⟩ := p1
  obtain ⟨⟨cls2, dd2, data2, sl2⟩, n2, ho2, hc2, hdd2, hd2⟩ := p2
  simp only at hc hd hc2 hd2
  subst hc hd hc2 hd2
  have e : its.toArray ++ its2.toArray = (its ++ its2).toArray := by simp
  have l1 := r.length
  have l2 := r2.length
  refine concat_meets ⟨_, ho, rfl⟩ ⟨_, ho2, rfl⟩ noFill_list_add seq_list_add PySem.F.slot_list_add PySem.F.entry_list_add (PySem.F.args_list_add_2 _ _) (list_addW l b its.toArray its2.toArray n n2 dd dd2 sl sl2 (by rw [List.size_toArray, List.size_toArray]; omega)) ⟨ho, ho2, ?_⟩
  rw [e]
  exact ⟨.ref _, _, I.lnew (t' := s.toks) (r.append r2) (by rw [List.length_append]; omega), rfl, q _ I.fresh⟩
/-- a list times an int -/
theorem op_repS : OpR X (binaryOp .Mult) (fun x y H Q => ∃ l k xs, x = .ref l ∧ y = .int k ∧ SqL X.K H l xs ∧ -1000000 < k ∧ k < 1000000 ∧ xs.length * k.toNat ≤ sizeLine ∧ ∀ p, H p = none → Q (.ref p) (upd H p (.lst (List.replicate k.toNat xs).flatten))) := by
  intro pins s σ H x y v u Q I rx ry h
  obtain ⟨l, k, xs, rfl, rfl, hH, h1, h2, hz, q⟩ := h
  cases rx
  obtain ⟨t, rfl⟩ := ry
  obtain ⟨its, r, p1, hl⟩ := I.list hH
  obtain ⟨⟨cls, dd, data, sl⟩, n, ho, hc, hdd, hd⟩ := p1
  simp only at hc hd
  subst hc hd
  have l1 := r.length
  have hz' : its.toArray.size * k.toNat ≤ 2 ^ 24 := by
    rw [List.size_toArray, ← l1]
    have e : sizeLine = 2 ^ 24 := by decide
    rw [← e]
    exact hz
  refine wpAny_binaryOp_repeat_ref (T := "list") (U := "int") (by decide) ⟨_, ho, rfl⟩ (fun s' => typeIs_int s' k t) noFill_list_mul F.fills_int_mul F.slot_int_rmul repeat_list F.slot_int_index.lookup
    (call_meets F.slot_int_rmul (typeIs_int s k t) F.entry_int_rmul (F.args_int_rmul_2 _ _) (lm_int_rmul_list_any k t l its.toArray n dd sl)
      ⟨ho, rfl, ⟨_, ho, rfl⟩, call_meets F.slot_list_mul ⟨_, ho, rfl⟩ F.entry_list_mul (F.args_list_mul_2 _ _)
        (lm_list_mul_any l its.toArray n dd sl k t (by simp [Builtin.List.listFitsIndex]; omega) (by omega) (by simp [Builtin.List.listTooLong, sizeLine]; omega))
        ⟨ho, ?_⟩⟩)
  rw [listMul_foldl_if]
  exact ⟨.ref _, _, I.lnew (t' := s.toks) (r.rep k.toNat) (by rw [PyProof.Rows.lm_len_rep_flat, Nat.mul_comm]; exact hz), rfl, q _ I.fresh⟩
def rBin (T : Tb) (X : Cx) (op : BOp) : R2 := L2op T X fun x y h Q => wBin op x y fun z => Q z h
theorem op_bin (hK : X.K = T.K) (op : BOp) : OpR X (binaryOp (opM op)) (rBin T X op) := by
  intro pins s σ H x y v u Q I rx ry h
  obtain ⟨F, G, σ', h, τ, dx, dy, Qd, sr, r1, r2, w, k⟩ := h
  have res : ∀ (z : D) (v' : V), Rep T F z v' → Qd z h → Q v' H := fun z v' r q => k z h v' F H (Same.refl _) sr r q
  cases r1 with
  | int =>
    cases r2 with
    | int =>
      rename_i i j
      cases op with
      | add => exact op_add pins s σ H _ _ v u Q I rx ry ⟨i, j, rfl, rfl, res _ _ .int w⟩
      | sub => exact op_sub pins s σ H _ _ v u Q I rx ry ⟨i, j, rfl, rfl, res _ _ .int w⟩
      | mul => exact op_mulG pins s σ H _ _ v u Q I rx ry ⟨i, j, rfl, rfl, w.1, res _ _ .int w.2⟩
      | fdiv => exact op_fdivG pins s σ H _ _ v u Q I rx ry ⟨i, j, rfl, rfl, w.1, res _ _ .int w.2⟩
      | mod => exact op_modN pins s σ H _ _ v u Q I rx ry ⟨i, j, rfl, rfl, w.1, res _ _ .int w.2⟩
      | pow => exact op_pow pins s σ H _ _ v u Q I rx ry ⟨i, j, rfl, rfl, w.1, res _ _ .int w.2⟩
      | shl => exact op_shlG pins s σ H _ _ v u Q I rx ry ⟨i, j, rfl, rfl, w.1, res _ _ .int w.2⟩
      | shr => exact op_shr pins s σ H _ _ v u Q I rx ry ⟨i, j, rfl, rfl, w.1, res _ _ .int w.2⟩
    | _ => exact False.elim w
  | lst s1 q1 =>
    rename_i l a vs
    cases r2 with
    | lst s2 q2 =>
      rename_i m b us
      cases op with
      | add =>
        obtain ⟨w1, w2⟩ := w
        refine op_catS pins s σ H _ _ v u Q I rx ry ⟨a, b, vs, us, rfl, rfl, hK ▸ sr.sh.sF.seq s1, hK ▸ sr.sh.sF.seq s2, ?_, fun p hp => ?_⟩
        · rw [← q1.length, ← q2.length, ← SL_eq]; exact w1
        · have g := Grow.new (o := .lst (vs ++ us)) sr.sh.sF hp
          exact k _ _ _ _ _ g.f (sr.grow g) (.lst (SqL.of upd_same) ((q1.append q2).mono g.f)) w2
      | _ => exact False.elim w
    | int =>
      rename_i i
      cases op with
      | mul =>
        obtain ⟨w1, w2⟩ := w
        refine op_repS pins s σ H _ _ v u Q I rx ry ⟨a, i, vs, rfl, rfl, hK ▸ sr.sh.sF.seq s1, w1.1, w1.2.1, by rw [← q1.length, ← SL_eq]; exact w1.2.2, fun p hp => ?_⟩
        have g := Grow.new (o := .lst (List.replicate i.toNat vs).flatten) sr.sh.sF hp
        have key : ∀ n : Nat, Reps T F (List.replicate n l).flatten (List.replicate n vs).flatten := fun n => by
          induction n with
          | zero => exact .nil
          | succ n ih => rw [List.replicate_succ, List.flatten_cons, List.replicate_succ, List.flatten_cons]; exact q1.append ih
        exact k _ _ _ _ _ g.f (sr.grow g) (.lst (SqL.of upd_same) ((key _).mono g.f)) w2
      | _ => exact False.elim w
    | _ => exact False.elim w
  | str =>
    rename_i x
    cases r2 with
    | str =>
      rename_i y
      cases op with
      | add =>
        obtain ⟨w1, w2⟩ := w
        refine op_add_str pins s σ H _ _ v u Q I rx ry ⟨sOf x, sOf y, rfl, rfl, ?_, ?_⟩
        · show x.toArray.size + y.toArray.size ≤ _
          rw [List.size_toArray, List.size_toArray, ← SL_eq]; exact w1
        · have e : sOf x ++ sOf y = sOf (x ++ y) := by
            show (⟨x.toArray ++ y.toArray⟩ : Str) = _
            simp [sOf]
          rw [e]
          exact res _ _ .str w2
      | _ => exact False.elim w
    | int =>
      rename_i i
      cases op with
      | mul => exact op_mul_text pins s σ H _ _ v u Q I rx ry ⟨x, i, rfl, rfl, w.1, res _ _ .str w.2⟩
      | _ => exact False.elim w
    | _ => exact False.elim w
  | tup s1 q1 =>
    rename_i l a vs
    cases r2 with
    | tup s2 q2 =>
      rename_i m b us
      cases op with
      | add =>
        obtain ⟨⟨_, _, n1, n2, w1⟩, w2⟩ := w
        have e1 : vs ≠ [] := fun z => by subst z; cases q1; exact n1 rfl
        have e2 : us ≠ [] := fun z => by subst z; cases q2; exact n2 rfl
        refine op_catT pins s σ H _ _ v u Q I rx ry ⟨a, b, vs, us, rfl, rfl, hK ▸ Same.sqt sr.sh.sF s1, hK ▸ Same.sqt sr.sh.sF s2, e1, ?_, fun z => absurd z e2, fun _ p hp => ?_⟩
        · rw [← q1.length, ← q2.length, ← SL_eq]; exact w1
        · have g := Grow.new (o := .tup (vs ++ us)) sr.sh.sF hp
          exact k _ _ _ _ _ g.f (sr.grow g) (.tup (SqT.of upd_same) ((q1.append q2).mono g.f)) w2
      | _ => exact False.elim w
    | _ => exact False.elim w
  | _ => cases r2 <;> exact False.elim w
end
end FF
namespace FF
open PySem PySem.Spec PyProof.Rows L2 PySem.Calls PySem.NumText PySem.W.KIN
/-! ### int(text, 10) -/
theorem type2_int (a b : Value) : checkTypeCall "int" ⟨[a, b], []⟩ = pure () := by kernel_rfl
theorem new2_int (a b : Value) : checkBuiltinCall "int.__new__" ⟨[.type "int", a, b], []⟩ = pure () := by kernel_rfl
set_option maxHeartbeats 4000000 in
theorem gives_two {x : PySem.Str} {u t : Tok} {n : Int} (hl : x.length ≤ 640) (hn : PySem.intText? x = some n) : Gives (Builtin.«int.__new__» ⟨[.type "int", .str x u, .int 10 t], []⟩) (.int n) :=
  .of_wp fun M A E s Q h => by
    obtain ⟨hp, g, d, tk, os⟩ := s
    have f1 := F.conv_sub_int
    have f2 := F.madeHere_int
    have f6 : typeOf (.str x u) = pure (.type "str") := rfl
    have hs : (numSeenOf x).length ≤ 640 := Nat.le_trans (seen_length x) hl
    have hr : (int_private% "readNumeral") 0 10 (numSeenOf x) = (int_private% "Numeral.value") n ∧ ((numSeenOf x).length == (numTextOf x).length) = true := by
      rcases read0 x hs with ⟨m, h1, h2, h3⟩ | ⟨h1, _⟩
      · rw [hn] at h1
        injection h1 with h1
        subst h1
        exact ⟨h3, h2⟩
      · rw [hn] at h1
        cases h1
    have hk := Hid.mk (And.intro hs hr)
    clear hs hr hl hn
    repeat (any_goals (first
      | assumption
      | ((with_reducible show wpAny _ _ ((int_private% "intFromText") _ _ _) _ _ _); refine wp_text hk.out.1 hk.out.2.1 hk.out.2.2 ?_)
      | wp_step))
    all_goals first | exact ⟨_, rfl, h⟩ | skip
section
variable {X : Cx}
theorem call_int_two : CallR X (.type "int") (fun xs H Q => ∃ a n, xs = [.str a, .int 10] ∧ PySem.intText? a = some n ∧ a.length ≤ 640 ∧ Q (.int n) H) := by
  intro pins s σ H xs us Q I rs h
  obtain ⟨a, n, rfl, hn, hl, h⟩ := h
  cases rs with
  | cons r1 rs =>
    cases rs with
    | cons r2 rs =>
      cases rs
      obtain ⟨t, rfl⟩ := r1
      obtain ⟨t2, rfl⟩ := r2
      exact callType_new F.called_int F.newNe_int (type2_int _ _) (new2_int _ _) (fun obj => F.args_object_init_3 obj _ _) F.entry_int_new (gives_two hl hn).meets (show (Made.int n).post _ s from ⟨rfl, .int n, H, I.tok _, ⟨_, rfl⟩, h⟩)
end
end FF
namespace FF
open PySem PySem.Spec PyProof.Rows L2
mutual
def D.py : D → PyData
  | .bl b => .bool b
  | .int i => .int i
  | .str s => .str (sOf s)
  | .tup l => .tuple (D.pys l)
  | .lst l => .list (D.pys l)
  | _ => .none
def D.pys : List D → List PyData
  | [] => []
  | d :: r => D.py d :: D.pys r
end
theorem depth_all {n : Nat} {ds : List PyData} : (∀ d ∈ ds, d.depth ≤ n) → PyData.depthAll ds ≤ n := by
  induction ds with
  | nil => intro _; exact Nat.zero_le _
  | cons d r ih =>
    intro h
    rw [PyData.depthAll]
    exact Nat.max_le.mpr ⟨h d List.mem_cons_self, ih fun e he => h e (List.mem_cons_of_mem _ he)⟩
theorem lay_all {ds : List PyData} : (∀ d ∈ ds, d.canLay0 = true) → PyData.canLayAll0 ds = true := by
  induction ds with
  | nil => intro _; simp [PyData.canLayAll0]
  | cons d r ih =>
    intro h
    rw [PyData.canLayAll0, h d List.mem_cons_self, ih fun e he => h e (List.mem_cons_of_mem _ he)]
    rfl
theorem pys_mem {ds : List D} {p : PyData} : p ∈ D.pys ds → ∃ d ∈ ds, d.py = p := by
  induction ds with
  | nil => intro h; cases h
  | cons d r ih =>
    intro h
    rw [D.pys] at h
    rcases List.mem_cons.mp h with e | h
    · exact ⟨d, List.mem_cons_self, e.symm⟩
    · obtain ⟨e, h1, h2⟩ := ih h
      exact ⟨e, List.mem_cons_of_mem _ h1, h2⟩
theorem pln_lay : ∀ (n : Nat) (d : D), d.pln n = true → d.py.canLay0 = true ∧ d.py.depth ≤ n := by
  intro n
  induction n with
  | zero =>
    intro d h
    cases d with
    | non => exact ⟨by simp [D.py, PyData.canLay0], by simp [D.py, PyData.depth]⟩
    | bl b => exact ⟨by simp [D.py, PyData.canLay0], by simp [D.py, PyData.depth]⟩
    | int b => exact ⟨by simp [D.py, PyData.canLay0], by simp [D.py, PyData.depth]⟩
    | str s =>
      refine ⟨?_, by simp [D.py, PyData.depth]⟩
      have h : s.all (· < 1114112) = true := by simpa [D.pln] using h
      simp only [D.py, PyData.canLay0, PyData.strOk]
      simpa using h
    | _ => simp [D.pln] at h
  | succ n ih =>
    intro d h
    cases d with
    | non => exact ⟨by simp [D.py, PyData.canLay0], by simp [D.py, PyData.depth]⟩
    | bl b => exact ⟨by simp [D.py, PyData.canLay0], by simp [D.py, PyData.depth]⟩
    | int b => exact ⟨by simp [D.py, PyData.canLay0], by simp [D.py, PyData.depth]⟩
    | str s =>
      refine ⟨?_, by simp [D.py, PyData.depth]⟩
      have h : s.all (· < 1114112) = true := by simpa [D.pln] using h
      simp only [D.py, PyData.canLay0, PyData.strOk]
      simpa using h
    | tup l =>
      have h : l.all (D.pln n) = true := by simpa [D.pln] using h
      have h' : ∀ d ∈ l, d.pln n = true := fun d hd => List.all_eq_true.mp h d hd
      refine ⟨?_, ?_⟩
      · simp only [D.py, PyData.canLay0]
        exact lay_all fun p hp => by obtain ⟨d, h1, h2⟩ := pys_mem hp; rw [← h2]; exact (ih d (h' d h1)).1
      · simp only [D.py, PyData.depth]
        have := depth_all (n := n) (ds := D.pys l) fun p hp => by obtain ⟨d, h1, h2⟩ := pys_mem hp; rw [← h2]; exact (ih d (h' d h1)).2
        omega
    | lst l =>
      have h : l.all (D.pln n) = true := by simpa [D.pln] using h
      have h' : ∀ d ∈ l, d.pln n = true := fun d hd => List.all_eq_true.mp h d hd
      refine ⟨?_, ?_⟩
      · simp only [D.py, PyData.canLay0]
        exact lay_all fun p hp => by obtain ⟨d, h1, h2⟩ := pys_mem hp; rw [← h2]; exact (ih d (h' d h1)).1
      · simp only [D.py, PyData.depth]
        have := depth_all (n := n) (ds := D.pys l) fun p hp => by obtain ⟨d, h1, h2⟩ := pys_mem hp; rw [← h2]; exact (ih d (h' d h1)).2
        omega
    | _ => simp [D.pln] at h
theorem pln_shaped {n : Nat} {d : D} (h : d.pln n = true) (hn : n ≤ 64) : SeqAt.shaped d.py = true := by
  obtain ⟨a, b⟩ := pln_lay n d h
  unfold SeqAt.shaped
  rw [a, decide_eq_true (Nat.le_trans b hn)]
  rfl
theorem sOf_inj {x y : List Nat} (h : sOf x = sOf y) : x = y := by
  have : x.toArray = y.toArray := congrArg Str.cps h
  simpa using this
theorem sOf_beq (x y : List Nat) : (sOf x == sOf y) = (x == y) := by
  by_cases e : x = y
  · subst e; simp
  · have : sOf x ≠ sOf y := fun z => e (sOf_inj z)
    rw [beq_eq_false_iff_ne.mpr this, beq_eq_false_iff_ne.mpr e]
mutual
theorem eqv_py : ∀ (n : Nat) (d e : D), d.pln n = true → e.pln n = true → PyData.eqv d.py e.py = D.eqb d e
  | n, .non, e, _, he => by cases e <;> first | (cases n <;> simp [D.pln] at he; done) | simp [D.py, PyData.eqv, D.eqb]
  | n, .bl b, e, _, he => by cases e <;> first | (cases n <;> simp [D.pln] at he; done) | simp [D.py, PyData.eqv, D.eqb]
  | n, .int b, e, _, he => by cases e <;> first | (cases n <;> simp [D.pln] at he; done) | simp [D.py, PyData.eqv, D.eqb]
  | n, .str b, e, _, he => by cases e <;> first | (cases n <;> simp [D.pln] at he; done) | simp [D.py, PyData.eqv, D.eqb, sOf_beq]
  | 0, .tup l, e, hd, _ => by simp [D.pln] at hd
  | n + 1, .tup l, e, hd, he => by
    cases e with
    | tup m =>
      simp only [D.py, PyData.eqv, D.eqb]
      exact eqv_pys n l m (by simpa [D.pln] using hd) (by simpa [D.pln] using he)
    | _ => first | (simp [D.pln] at he; done) | simp [D.py, PyData.eqv, D.eqb]
  | 0, .lst l, e, hd, _ => by simp [D.pln] at hd
  | n + 1, .lst l, e, hd, he => by
    cases e with
    | lst m =>
      simp only [D.py, PyData.eqv, D.eqb]
      exact eqv_pys n l m (by simpa [D.pln] using hd) (by simpa [D.pln] using he)
    | _ => first | (simp [D.pln] at he; done) | simp [D.py, PyData.eqv, D.eqb]
  | n, .obj _ _, _, hd, _ => by cases n <;> simp [D.pln] at hd
  | n, .ref _, _, hd, _ => by cases n <;> simp [D.pln] at hd
  | n, .fn _, _, hd, _ => by cases n <;> simp [D.pln] at hd
  | n, .clo _ _, _, hd, _ => by cases n <;> simp [D.pln] at hd
  | n, .odd _, _, hd, _ => by cases n <;> simp [D.pln] at hd
  | n, .map _ _, _, hd, _ => by cases n <;> simp [D.pln] at hd
theorem eqv_pys : ∀ (n : Nat) (d e : List D), (∀ x ∈ d, x.pln n = true) → (∀ x ∈ e, x.pln n = true) → PyData.eqvAll (D.pys d) (D.pys e) = D.eqbs d e
  | _, [], [], _, _ => by simp [D.pys, PyData.eqvAll, D.eqbs]
  | _, [], _ :: _, _, _ => by simp [D.pys, PyData.eqvAll, D.eqbs]
  | _, _ :: _, [], _, _ => by simp [D.pys, PyData.eqvAll, D.eqbs]
  | n, x :: xs, y :: ys, hd, he => by
    simp only [D.pys, PyData.eqvAll, D.eqbs]
    rw [eqv_py n x y (hd x List.mem_cons_self) (he y List.mem_cons_self), eqv_pys n xs ys (fun z hz => hd z (List.mem_cons_of_mem _ hz)) fun z hz => he z (List.mem_cons_of_mem _ hz)]
end
section
variable {X : Cx} {T : Tb} {F H : Hp}
mutual
theorem rep_dp (s : Same F H) : ∀ {d : D} {v : V}, Rep T F d v → ∀ {n : Nat}, d.pln n = true → Dp T.K H v d.py
  | _, _, .dct _, n, p => by cases n <;> simp [D.pln] at p
  | _, _, .dcm _, n, p => by cases n <;> simp [D.pln] at p
  | _, _, .map _ _ _, n, p => by cases n <;> simp [D.pln] at p
  | _, _, .non, _, _ => by rw [D.py]; exact .non; all_goals simp
  | _, _, .bl, _, _ => by rw [D.py]; exact .bl _
  | _, _, .int, _, _ => by rw [D.py]; exact .int _
  | _, _, .str, _, _ => by rw [D.py]; exact .str _
  | _, _, .tup h r, n, p => by
    cases n with
    | zero => simp [D.pln] at p
    | succ n =>
      rw [D.py]
      exact .tup (Same.sqt s h) (reps_dp s r (n := n) (by simpa [D.pln] using p))
  | _, _, .lst h r, n, p => by
    cases n with
    | zero => simp [D.pln] at p
    | succ n =>
      rw [D.py]
      exact .lst (s.seq h) (reps_dp s r (n := n) (by simpa [D.pln] using p))
  | _, _, .obj _ _ _, n, p => by cases n <;> simp [D.pln] at p
  | _, _, .ref, n, p => by cases n <;> simp [D.pln] at p
  | _, _, .fn, n, p => by cases n <;> simp [D.pln] at p
theorem reps_dp (s : Same F H) : ∀ {d : List D} {v : List V}, Reps T F d v → ∀ {n : Nat}, (∀ x ∈ d, x.pln n = true) → DpAll T.K H v (D.pys d)
  | _, _, .nil, _, _ => by rw [D.pys]; exact .nil
  | _, _, .cons h r, n, p => by
    rw [D.pys]
    exact .cons (rep_dp s h (n := n) (p _ List.mem_cons_self)) (reps_dp s r (n := n) fun x hx => p x (List.mem_cons_of_mem _ hx))
end
theorem rep_isNon {d : D} {v : V} (r : Rep T F d v) : decide (v = .non) = d.isNon := by
  cases r <;> simp [D.isNon]
theorem rep_flat {d : D} {v : V} (r : Rep T F d v) (h : d.flat = true) : flatV v = true := by
  cases r <;> first | rfl | cases h
theorem reps_flat : ∀ {d : List D} {v : List V}, Reps T F d v → d.all D.flat = true → v.all flatV = true
  | _, _, .nil, _ => rfl
  | _, _, .cons h r, e => by
    rw [List.all_cons, Bool.and_eq_true] at e
    rw [List.all_cons, rep_flat h e.1, reps_flat r e.2]
    rfl
theorem eqV_eqb {d e : D} {v u : V} (r : Rep T F d v) (q : Rep T F e u) (hd : d.flat = true) (he : e.flat = true) : eqV u v = D.eqb d e := by
  have bc : ∀ {α : Type} [BEq α] [LawfulBEq α] (a b : α), (a == b) = (b == a) := fun a b => by
    rw [Bool.eq_iff_iff, beq_iff_eq, beq_iff_eq]
    exact eq_comm
  cases r <;> first | (cases (show false = true from hd); done) | (cases q <;> first | (cases (show false = true from he); done) | rfl | (simp only [eqV, D.eqb]; done) | (simp only [eqV, D.eqb]; first | exact bc (α := Int) _ _ | exact bc (α := Bool) _ _) | (simp only [eqV, D.eqb, sOf_beq]; exact bc (α := List Nat) _ _))
theorem inV_any {d : D} {v : V} (r : Rep T F d v) (hd : d.flat = true) : ∀ {l : List D} {vs : List V}, Reps T F l vs → l.all D.flat = true → inV v vs = l.any (D.eqb d)
  | _, _, .nil, _ => rfl
  | _, _, .cons h q, e => by
    rw [List.all_cons, Bool.and_eq_true] at e
    unfold inV
    rw [List.any_cons, List.any_cons, eqV_eqb r h hd e.1]
    congr 1
    exact inV_any r hd q e.2
theorem asL_rep {F G : Hp} {h : AH} {H : Hp} (sh : SH T F G h H) {d : D} {v : V} {l : List D} (r : Rep T F d v) (e : asL h d = some l) : ∃ a vs, v = .ref a ∧ SqL T.K H a vs ∧ Reps T F l vs := by
  cases r with
  | lst h1 q =>
    cases e
    exact ⟨_, _, rfl, sh.sF.seq h1, q⟩
  | ref =>
    rename_i a
    unfold asL at e
    simp only at e
    split at e
    · rename_i m hm
      cases e
      obtain ⟨_, _, vs, e1, q⟩ := sh.cell _ _ hm
      exact ⟨a, vs, rfl, SqL.of e1, q⟩
    · cases e
  | _ => cases e
theorem asLT_rep {F G : Hp} {h : AH} {H : Hp} (sh : SH T F G h H) {d : D} {v : V} {l : List D} (r : Rep T F d v) (e : asLT h d = some l) : ∃ a vs, v = .ref a ∧ (SqL T.K H a vs ∨ SqT T.K H a vs) ∧ Reps T F l vs := by
  cases r with
  | lst h1 q =>
    cases e
    exact ⟨_, _, rfl, .inl (sh.sF.seq h1), q⟩
  | tup h1 q =>
    cases e
    exact ⟨_, _, rfl, .inr (Same.sqt sh.sF h1), q⟩
  | ref =>
    rename_i a
    unfold asLT at e
    simp only at e
    split at e
    · rename_i m hm
      cases e
      obtain ⟨_, _, vs, e1, q⟩ := sh.cell _ _ hm
      exact ⟨a, vs, rfl, .inl (SqL.of e1), q⟩
    · cases e
  | _ => cases e
theorem asObj_rep {F G : Hp} {h : AH} {H : Hp} (sh : SH T F G h H) {d : D} {v : V} {c : Nat} {fs : List (Nat × D)} (r : Rep T F d v) (e : d.asObj h = some (c, fs)) : ∃ a dx fvs, v = .ref a ∧ H a = some (.ins (T.cA c) dx fvs) ∧ Cls T.K (T.cA c) ∧ RepF T F c fs fvs := by
  cases r with
  | obj h1 k q =>
    cases e
    exact ⟨_, _, _, rfl, sh.sF _ _ h1, k, q⟩
  | ref =>
    rename_i a
    unfold D.asObj at e
    simp only at e
    split at e
    · rename_i m hm
      cases e
      obtain ⟨_, _, dx, fvs, e1, k, q⟩ := sh.cell _ _ hm
      exact ⟨a, dx, fvs, rfl, e1, k, q⟩
    · cases e
  | _ => cases e
/-! ### comparisons -/
theorem op_isB : OpR X (compareOp .Is) (fun x y H Q => ∃ c b, x = .bl c ∧ y = .bl b ∧ Q (.bl (c == b)) H) := by
  intro pins s σ H x y v u Q I rx ry h
  obtain ⟨c, b, rfl, rfl, q⟩ := h
  cases rx
  cases ry
  show wpAny _ _ ((isSame (Value.bool c) (Value.bool b)) >>= fun z => pure (Value.bool z)) _ _ s
  have e : isSame (Value.bool c) (Value.bool b) = pure (c == b) := by
    cases c <;> cases b <;> rfl
  rw [e]
  exact wpAny_bind (wpAny_pure (wpAny_pure (fin_bl I q rfl)))
def rCmp (T : Tb) (X : Cx) (op : COp) : R2 := L2op T X fun x y h Q => wCmp op x y fun k => Q (.bl k) h
theorem op_cmp (hK : X.K = T.K) (hu : X.A.units + 64 < cLine) (op : COp) : OpR X (compareOp (copM op)) (rCmp T X op) := by
  intro pins s σ H x y v u Q I rx ry h
  obtain ⟨F, G, σ', h, τ, dx, dy, Qd, sr, r1, r2, w, k⟩ := h
  have res : ∀ (b : Bool), Qd (.bl b) h → Q (.bl b) H := fun b q => k _ h _ F H (Same.refl _) sr .bl q
  cases op with
  | eq =>
    obtain ⟨⟨w1, w2⟩, w3⟩ := w
    refine op_eqD hu pins s σ H _ _ v u Q I rx ry ⟨dx.py, dy.py, hK ▸ rep_dp sr.sh.sF r1 w1, hK ▸ rep_dp sr.sh.sF r2 w2, pln_shaped w1 (by decide), pln_shaped w2 (by decide), ?_⟩
    rw [eqv_py 60 dx dy w1 w2]
    exact res _ w3
  | ne =>
    obtain ⟨⟨w1, w2⟩, w3⟩ := w
    refine op_neD hu pins s σ H _ _ v u Q I rx ry ⟨dx.py, dy.py, hK ▸ rep_dp sr.sh.sF r1 w1, hK ▸ rep_dp sr.sh.sF r2 w2, pln_shaped w1 (by decide), pln_shaped w2 (by decide), ?_⟩
    rw [eqv_py 60 dx dy w1 w2]
    exact res _ w3
  | lt =>
    cases r1 <;> first | (exact False.elim w) | (cases r2 <;> first | (exact False.elim w) | exact op_lt pins s σ H _ _ v u Q I rx ry ⟨_, _, rfl, rfl, res _ w⟩)
  | le =>
    cases r1 <;> first | (exact False.elim w) | (cases r2 <;> first | (exact False.elim w) | exact op_le pins s σ H _ _ v u Q I rx ry ⟨_, _, rfl, rfl, res _ w⟩)
  | gt =>
    cases r1 <;> first | (exact False.elim w) | (cases r2 <;> first | (exact False.elim w) | exact op_gt pins s σ H _ _ v u Q I rx ry ⟨_, _, rfl, rfl, res _ w⟩)
  | ge =>
    cases r1 <;> first | (exact False.elim w) | (cases r2 <;> first | (exact False.elim w) | exact op_ge pins s σ H _ _ v u Q I rx ry ⟨_, _, rfl, rfl, res _ w⟩)
  | is_ =>
    cases r2 <;> first | (exact False.elim w) | (cases r1 <;> first | (exact False.elim w) | exact op_isB pins s σ H _ _ v u Q I rx ry ⟨_, _, rfl, rfl, res _ w⟩) | (refine op_isN pins s σ H _ _ v u Q I rx ry ⟨rfl, ?_⟩; rw [rep_isNon r1]; exact res _ w)
  | isn =>
    cases r2 <;> first | (exact False.elim w) | (refine op_notN pins s σ H _ _ v u Q I rx ry ⟨rfl, ?_⟩; rw [rep_isNon r1]; exact res _ w)
  | in_ =>
    cases r2 with
    | lst h1 q =>
      obtain ⟨⟨w1, w2⟩, w3⟩ := w
      refine op_in_seq pins s σ H _ _ v u Q I rx ry ⟨_, _, rfl, .inl (hK ▸ sr.sh.sF.seq h1), rep_flat r1 w1, reps_flat q w2, ?_⟩
      rw [inV_any r1 w1 q w2]
      exact res _ w3
    | tup h1 q =>
      obtain ⟨⟨w1, w2⟩, w3⟩ := w
      refine op_in_seq pins s σ H _ _ v u Q I rx ry ⟨_, _, rfl, .inr (hK ▸ Same.sqt sr.sh.sF h1), rep_flat r1 w1, reps_flat q w2, ?_⟩
      rw [inV_any r1 w1 q w2]
      exact res _ w3
    | _ => exact False.elim w
  | nin =>
    cases r2 with
    | lst h1 q =>
      obtain ⟨⟨w1, w2⟩, w3⟩ := w
      refine op_notIn_seq pins s σ H _ _ v u Q I rx ry ⟨_, _, rfl, .inl (hK ▸ sr.sh.sF.seq h1), rep_flat r1 w1, reps_flat q w2, ?_⟩
      rw [inV_any r1 w1 q w2]
      exact res _ w3
    | tup h1 q =>
      obtain ⟨⟨w1, w2⟩, w3⟩ := w
      refine op_notIn_seq pins s σ H _ _ v u Q I rx ry ⟨_, _, rfl, .inr (hK ▸ Same.sqt sr.sh.sF h1), rep_flat r1 w1, reps_flat q w2, ?_⟩
      rw [inV_any r1 w1 q w2]
      exact res _ w3
    | _ => exact False.elim w
/-! ### built-in functions -/
theorem maxL_eq : ∀ {ns : List Int} {m : Int}, m ∈ ns → (∀ y, y ∈ ns → y ≤ m) → maxL ns = m
  | [], m, h, _ => by cases h
  | [x], m, h, _ => (List.mem_singleton.mp h).symm
  | x :: y :: r, m, h, k => by
    have e : maxL (x :: y :: r) = max x (maxL (y :: r)) := rfl
    rw [e]
    have mem : ∀ {l : List Int}, l ≠ [] → maxL l ∈ l := by
      intro l
      induction l with
      | nil => intro z; exact absurd rfl z
      | cons a l ih =>
        intro _
        cases l with
        | nil => exact List.mem_singleton.mpr rfl
        | cons b l =>
          have e2 : maxL (a :: b :: l) = max a (maxL (b :: l)) := rfl
          rw [e2]
          rcases Int.le_total a (maxL (b :: l)) with q | q
          · rw [Int.max_eq_right q]; exact List.mem_cons_of_mem _ (ih (by simp))
          · rw [Int.max_eq_left q]; exact List.mem_cons_self
    have top : ∀ {l : List Int} {z : Int}, z ∈ l → z ≤ maxL l := by
      intro l
      induction l with
      | nil => intro z hz; cases hz
      | cons a l ih =>
        intro z hz
        cases l with
        | nil => rw [List.mem_singleton.mp hz]; exact Int.le_refl _
        | cons b l =>
          have e2 : maxL (a :: b :: l) = max a (maxL (b :: l)) := rfl
          rw [e2]
          rcases List.mem_cons.mp hz with q | q
          · rw [q]; exact Int.le_max_left _ _
          · exact Int.le_trans (ih q) (Int.le_max_right _ _)
    have a1 : max x (maxL (y :: r)) ∈ x :: y :: r := by rw [← e]; exact mem (by simp)
    have a2 := k _ a1
    have a3 : m ≤ max x (maxL (y :: r)) := by rw [← e]; exact top h
    omega
theorem minL_eq : ∀ {ns : List Int} {m : Int}, m ∈ ns → (∀ y, y ∈ ns → m ≤ y) → minL ns = m
  | [], m, h, _ => by cases h
  | [x], m, h, _ => (List.mem_singleton.mp h).symm
  | x :: y :: r, m, h, k => by
    have e : minL (x :: y :: r) = min x (minL (y :: r)) := rfl
    rw [e]
    have mem : ∀ {l : List Int}, l ≠ [] → minL l ∈ l := by
      intro l
      induction l with
      | nil => intro z; exact absurd rfl z
      | cons a l ih =>
        intro _
        cases l with
        | nil => exact List.mem_singleton.mpr rfl
        | cons b l =>
          have e2 : minL (a :: b :: l) = min a (minL (b :: l)) := rfl
          rw [e2]
          rcases Int.le_total a (minL (b :: l)) with q | q
          · rw [Int.min_eq_left q]; exact List.mem_cons_self
          · rw [Int.min_eq_right q]; exact List.mem_cons_of_mem _ (ih (by simp))
    have top : ∀ {l : List Int} {z : Int}, z ∈ l → minL l ≤ z := by
      intro l
      induction l with
      | nil => intro z hz; cases hz
      | cons a l ih =>
        intro z hz
        cases l with
        | nil => rw [List.mem_singleton.mp hz]; exact Int.le_refl _
        | cons b l =>
          have e2 : minL (a :: b :: l) = min a (minL (b :: l)) := rfl
          rw [e2]
          rcases List.mem_cons.mp hz with q | q
          · rw [q]; exact Int.min_le_left _ _
          · exact Int.le_trans (Int.min_le_right _ _) (ih q)
    have a1 : min x (minL (y :: r)) ∈ x :: y :: r := by rw [← e]; exact mem (by simp)
    have a2 := k _ a1
    have a3 : min x (minL (y :: r)) ≤ m := by rw [← e]; exact top h
    omega
def rBi (T : Tb) (X : Cx) (b : Bi) : List V → Hp → VK → Prop := LNop T X fun ds h Q => wBi b ds h fun d => Q d h
theorem call_bi_abs : CallR X (.builtin "abs") (rBi T X .abs) := by
  intro pins s σ H xs us Q I r h
  obtain ⟨F, G, σ', h, τ, ds, Qd, sr, r1, w, k⟩ := h
  have res : ∀ (z : D) (v' : V), Rep T F z v' → Qd z h → Q v' H := fun z v' r q => k z h v' F H (Same.refl _) sr r q
  cases r1 with
  | nil => exact False.elim w
  | cons a1 a2 =>
    cases a1 <;> first | (cases a2 <;> exact False.elim w) | (cases a2 <;> first | exact False.elim w | skip)
    rename_i i
    refine call_abs pins s σ H _ us Q I r ⟨i, rfl, ?_⟩
    have e : (if i < 0 then -i else i) = (i.natAbs : Int) := by split <;> omega
    rw [e]
    exact res _ _ .int w
theorem call_bi_int : CallR X (.type "int") (rBi T X .int) := by
  intro pins s σ H xs us Q I r h
  obtain ⟨F, G, σ', h, τ, ds, Qd, sr, r1, w, k⟩ := h
  have res : ∀ (z : D) (v' : V), Rep T F z v' → Qd z h → Q v' H := fun z v' r q => k z h v' F H (Same.refl _) sr r q
  cases r1 with
  | nil => exact False.elim w
  | cons a1 a2 =>
    cases a2 with
    | cons b1 b2 =>
      cases b2 with
      | cons _ _ => cases a1 <;> first | (cases b1 <;> exact False.elim w) | exact False.elim w
      | nil =>
        cases a1 <;> first | (cases b1 <;> exact False.elim w) | exact False.elim w | skip
        cases b1 <;> first | exact False.elim w | skip
        rename_i x j
        obtain ⟨⟨rfl, w1, w2, w3⟩, w⟩ := w
        refine call_int_two pins s σ H _ us Q I r ⟨sOf x, _, rfl, int_text w1 w2 w3, ?_, res _ _ .int w⟩
        show x.toArray.size ≤ 640
        rw [List.size_toArray]; exact w2
    | nil =>
      cases a1 with
      | int => exact call_int1 pins s σ H _ us Q I r (.inl ⟨_, rfl, res _ _ .int w⟩)
      | bl => exact call_int1 pins s σ H _ us Q I r (.inr ⟨_, rfl, res _ _ .int w⟩)
      | str =>
        rename_i x
        refine call_int_str pins s σ H _ us Q I r ⟨sOf x, _, rfl, int_text w.1.1 w.1.2.1 w.1.2.2, ?_, res _ _ .int w.2⟩
        show x.toArray.size ≤ 640
        rw [List.size_toArray]; exact w.1.2.1
      | _ => exact False.elim w
theorem call_bi_len (hK : X.K = T.K) : CallR X (.builtin "len") (rBi T X .len) := by
  intro pins s σ H xs us Q I r h
  obtain ⟨F, G, σ', h, τ, ds, Qd, sr, r1, w, k⟩ := h
  have res : ∀ (z : D) (v' : V), Rep T F z v' → Qd z h → Q v' H := fun z v' r q => k z h v' F H (Same.refl _) sr r q
  cases r1 with
  | nil => exact False.elim w
  | cons a1 a2 =>
    cases a2 with
    | cons _ _ => exact False.elim w
    | nil =>
      have key : ∀ {d : D} {v : V}, Rep T F d v → (match asLT h d with | some l => Qd (.int l.length) h | none => False) → ∃ x n, [v] = [x] ∧ LenV X.K x H n ∧ Q (.int n) H := fun {d v} ra wd => by
        cases e : asLT h d with
        | none => rw [e] at wd; exact False.elim wd
        | some l =>
          rw [e] at wd
          obtain ⟨a, vs, rfl, q1, q2⟩ := asLT_rep sr.sh ra e
          refine ⟨_, l.length, rfl, ?_, res _ _ .int wd⟩
          rcases q1 with q1 | q1
          · exact .inl ⟨vs, hK ▸ q1, q2.length⟩
          · exact .inr ⟨vs, hK ▸ q1, q2.length⟩
      cases a1 with
      | str =>
        rename_i x
        obtain ⟨w1, w2⟩ := w
        refine call_len pins s σ H _ us Q I r ⟨_, x.length, rfl, ⟨?_, ?_⟩, res _ _ .int w2⟩
        · show x.toArray.size ≤ _
          rw [List.size_toArray, ← SL_eq]; exact w1
        · show _ = x.toArray.size
          rw [List.size_toArray]
      | lst h1 q => exact call_len pins s σ H _ us Q I r (key (.lst h1 q) w)
      | tup h1 q => exact call_len pins s σ H _ us Q I r (key (.tup h1 q) w)
      | ref => exact call_len pins s σ H _ us Q I r (key .ref w)
      | _ => exact False.elim w
theorem of_asL_ints {F G : Hp} {h : AH} {H : Hp} (hK : X.K = T.K) (sh : SH T F G h H) {d : D} {v : V} {P : List Int → Prop} (ra : Rep T F d v) (w : match asL h d with | some l => (match intsOf l with | some ns => P ns | none => False) | none => False) :
    ∃ a ns, v = .ref a ∧ SqL X.K H a (ns.map V.int) ∧ P ns := by
  cases e : asL h d with
  | none => rw [e] at w; exact False.elim w
  | some l =>
    rw [e] at w
    cases e2 : intsOf l with
    | none => simp only [e2] at w
    | some ns =>
      simp only [e2] at w
      obtain ⟨a, vs, rfl, q1, q2⟩ := asL_rep sh ra e
      have := Reps.intsOf q2 e2
      subst this
      exact ⟨a, ns, rfl, hK ▸ q1, w⟩
theorem of_asL_bools {F G : Hp} {h : AH} {H : Hp} (hK : X.K = T.K) (sh : SH T F G h H) {d : D} {v : V} {P : List Bool → Prop} (ra : Rep T F d v) (w : match asL h d with | some l => (match boolsOf l with | some ns => P ns | none => False) | none => False) :
    ∃ a ns, v = .ref a ∧ SqL X.K H a (ns.map V.bl) ∧ P ns := by
  cases e : asL h d with
  | none => rw [e] at w; exact False.elim w
  | some l =>
    rw [e] at w
    cases e2 : boolsOf l with
    | none => simp only [e2] at w
    | some ns =>
      simp only [e2] at w
      obtain ⟨a, vs, rfl, q1, q2⟩ := asL_rep sh ra e
      have := Reps.boolsOf q2 e2
      subst this
      exact ⟨a, ns, rfl, hK ▸ q1, w⟩
theorem call_bi_sum (hK : X.K = T.K) (hc : X.calm = true) : CallR X (.builtin "sum") (rBi T X .sum) := by
  intro pins s σ H xs us Q I r h
  obtain ⟨F, G, σ', h, τ, ds, Qd, sr, r1, w, k⟩ := h
  have res : ∀ (z : D) (v' : V), Rep T F z v' → Qd z h → Q v' H := fun z v' r q => k z h v' F H (Same.refl _) sr r q
  cases r1 with
  | nil => exact False.elim w
  | cons a1 a2 =>
    cases a2 with
    | cons _ _ => exact False.elim w
    | nil =>
      obtain ⟨a, ns, rfl, q1, q2⟩ := of_asL_ints (P := fun ns => Qd (.int ns.sum) h) hK sr.sh a1 w
      exact cr_sum hc pins s σ H _ us Q I r ⟨a, ns, rfl, q1, res _ _ .int q2⟩
theorem call_bi_all (hK : X.K = T.K) (hc : X.calm = true) : CallR X (.builtin "all") (rBi T X .all) := by
  intro pins s σ H xs us Q I r h
  obtain ⟨F, G, σ', h, τ, ds, Qd, sr, r1, w, k⟩ := h
  have res : ∀ (z : D) (v' : V), Rep T F z v' → Qd z h → Q v' H := fun z v' r q => k z h v' F H (Same.refl _) sr r q
  cases r1 with
  | nil => exact False.elim w
  | cons a1 a2 =>
    cases a2 with
    | cons _ _ => exact False.elim w
    | nil =>
      obtain ⟨a, ns, rfl, q1, q2⟩ := of_asL_bools (P := fun ns => Qd (.bl (ns.all id)) h) hK sr.sh a1 w
      exact cr_all hc pins s σ H _ us Q I r ⟨a, ns, rfl, q1, res _ _ .bl q2⟩
theorem call_bi_any (hK : X.K = T.K) (hc : X.calm = true) : CallR X (.builtin "any") (rBi T X .any) := by
  intro pins s σ H xs us Q I r h
  obtain ⟨F, G, σ', h, τ, ds, Qd, sr, r1, w, k⟩ := h
  have res : ∀ (z : D) (v' : V), Rep T F z v' → Qd z h → Q v' H := fun z v' r q => k z h v' F H (Same.refl _) sr r q
  cases r1 with
  | nil => exact False.elim w
  | cons a1 a2 =>
    cases a2 with
    | cons _ _ => exact False.elim w
    | nil =>
      obtain ⟨a, ns, rfl, q1, q2⟩ := of_asL_bools (P := fun ns => Qd (.bl (ns.any id)) h) hK sr.sh a1 w
      exact cr_any hc pins s σ H _ us Q I r ⟨a, ns, rfl, q1, res _ _ .bl q2⟩
theorem nuMax2_int {i j : Int} : nuMax2 (.int i) (.int j) = some (.int (max i j)) := by
  show some (if decide (i < j) = true then V.int j else V.int i) = _
  by_cases c : i < j
  · rw [if_pos (decide_eq_true c), Int.max_eq_right (by omega)]
  · rw [if_neg (by rw [decide_eq_true_iff]; exact c), Int.max_eq_left (by omega)]
theorem nuMin2_int {i j : Int} : nuMin2 (.int i) (.int j) = some (.int (min i j)) := by
  show some (if decide (j < i) = true then V.int j else V.int i) = _
  by_cases c : j < i
  · rw [if_pos (decide_eq_true c), Int.min_eq_right (by omega)]
  · rw [if_neg (by rw [decide_eq_true_iff]; exact c), Int.min_eq_left (by omega)]
theorem nuMax3_int {i j k : Int} : nuMax3 (.int i) (.int j) (.int k) = some (.int (max (max i j) k)) := by
  unfold nuMax3
  rw [nuMax2_int]
  exact nuMax2_int
theorem nuMin3_int {i j k : Int} : nuMin3 (.int i) (.int j) (.int k) = some (.int (min (min i j) k)) := by
  unfold nuMin3
  rw [nuMin2_int]
  exact nuMin2_int
theorem call_bi_max (hK : X.K = T.K) (hc : X.calm = true) : CallR X (.builtin "max") (rBi T X .max) := by
  intro pins s σ H xs us Q I r h
  obtain ⟨F, G, σ', h, τ, ds, Qd, sr, r1, w, k⟩ := h
  have res : ∀ (z : D) (v' : V), Rep T F z v' → Qd z h → Q v' H := fun z v' r q => k z h v' F H (Same.refl _) sr r q
  cases r1 with
  | nil => exact False.elim w
  | cons a1 a2 =>
    cases a2 with
    | nil =>
      rename_i dd vv
      have w' : match asL h dd with | some l => (match intsOf l with | some ns => 0 < ns.length ∧ Qd (.int (maxL ns)) h | none => False) | none => False := by
        cases a1 <;> first | exact w | exact False.elim w
      obtain ⟨a, ns, rfl, q1, q2, q3⟩ := of_asL_ints (P := fun ns => 0 < ns.length ∧ Qd (.int (maxL ns)) h) hK sr.sh a1 w'
      exact cr_max hc pins s σ H _ us Q I r ⟨a, ns, rfl, q1, q2, fun m h1 h2 => res _ _ .int (by rw [← maxL_eq h1 h2]; exact q3)⟩
    | cons b1 b2 =>
      cases b2 with
      | cons c1 c2 =>
        cases c2 with
        | cons _ _ => cases a1 <;> first | exact False.elim w | (cases b1 <;> first | exact False.elim w | (cases c1 <;> exact False.elim w))
        | nil =>
          cases a1 <;> first | exact False.elim w | skip
          cases b1 <;> first | exact False.elim w | skip
          cases c1 <;> first | exact False.elim w | skip
          rename_i i j k3
          refine call_max3Nu hc pins s σ H _ us Q I r ⟨.int i, .int j, .int k3, .int (max (max i j) k3), rfl, ?_, res _ _ .int w⟩
          exact nuMax3_int
      | nil =>
        cases a1 <;> first | exact False.elim w | skip
        cases b1 <;> first | exact False.elim w | skip
        rename_i i j
        refine call_max2 hc pins s σ H _ us Q I r ⟨i, j, rfl, ?_⟩
        have e : (if j > i then j else i) = max i j := by split <;> omega
        rw [e]
        exact res _ _ .int w
theorem call_bi_min (hK : X.K = T.K) (hc : X.calm = true) : CallR X (.builtin "min") (rBi T X .min) := by
  intro pins s σ H xs us Q I r h
  obtain ⟨F, G, σ', h, τ, ds, Qd, sr, r1, w, k⟩ := h
  have res : ∀ (z : D) (v' : V), Rep T F z v' → Qd z h → Q v' H := fun z v' r q => k z h v' F H (Same.refl _) sr r q
  cases r1 with
  | nil => exact False.elim w
  | cons a1 a2 =>
    cases a2 with
    | nil =>
      rename_i dd vv
      have w' : match asL h dd with | some l => (match intsOf l with | some ns => 0 < ns.length ∧ Qd (.int (minL ns)) h | none => False) | none => False := by
        cases a1 <;> first | exact w | exact False.elim w
      obtain ⟨a, ns, rfl, q1, q2, q3⟩ := of_asL_ints (P := fun ns => 0 < ns.length ∧ Qd (.int (minL ns)) h) hK sr.sh a1 w'
      exact cr_min hc pins s σ H _ us Q I r ⟨a, ns, rfl, q1, q2, fun m h1 h2 => res _ _ .int (by rw [← minL_eq h1 h2]; exact q3)⟩
    | cons b1 b2 =>
      cases b2 with
      | cons c1 c2 =>
        cases c2 with
        | cons _ _ => cases a1 <;> first | exact False.elim w | (cases b1 <;> first | exact False.elim w | (cases c1 <;> exact False.elim w))
        | nil =>
          cases a1 <;> first | exact False.elim w | skip
          cases b1 <;> first | exact False.elim w | skip
          cases c1 <;> first | exact False.elim w | skip
          rename_i i j k3
          refine call_min3Nu hc pins s σ H _ us Q I r ⟨.int i, .int j, .int k3, .int (min (min i j) k3), rfl, ?_, res _ _ .int w⟩
          exact nuMin3_int
      | nil =>
        cases a1 <;> first | exact False.elim w | skip
        cases b1 <;> first | exact False.elim w | skip
        rename_i i j
        refine call_min2 hc pins s σ H _ us Q I r ⟨i, j, rfl, ?_⟩
        have e : (if j < i then j else i) = min i j := by split <;> omega
        rw [e]
        exact res _ _ .int w
theorem Reps.ints' {T : Tb} {F : Hp} : ∀ (ns : List Int), Reps T F (ns.map .int) (ns.map V.int)
  | [] => .nil
  | _ :: r => .cons .int (Reps.ints' r)
theorem call_bi_sorted (hK : X.K = T.K) : CallR X (.builtin "sorted") (rBi T X .sorted) := by
  intro pins s σ H xs us Q I r h
  obtain ⟨F, G, σ', h, τ, ds, Qd, sr, r1, w, k⟩ := h
  cases r1 with
  | nil => exact False.elim w
  | cons a1 a2 =>
    cases a2 with
    | cons _ _ => exact False.elim w
    | nil =>
      obtain ⟨a, ns, rfl, q1, q2⟩ := of_asL_ints (P := fun ns => ∀ ns' : List Int, ns'.Perm ns → ns'.Pairwise (· ≤ ·) → Qd (.lst (ns'.map .int)) h) hK sr.sh a1 w
      refine cr_sortedI pins s σ H _ us Q I r ⟨a, ns, rfl, q1, fun ns' p h1 h2 hp => ?_⟩
      have g := Grow.new (o := .lst (ns'.map V.int)) sr.sh.sF hp
      exact k _ _ _ _ _ g.f (sr.grow g) (.lst (SqL.of upd_same) (Reps.ints' ns')) (q2 ns' h1 h2)
theorem call_bi_list (hK : X.K = T.K) : CallR X (.type "list") (rBi T X .list) := by
  intro pins s σ H xs us Q I r h
  obtain ⟨F, G, σ', h, τ, ds, Qd, sr, r1, w, k⟩ := h
  cases r1 with
  | nil => exact False.elim w
  | cons a1 a2 =>
    cases a2 with
    | cons _ _ => exact False.elim w
    | nil =>
      rename_i d v
      have w : (match asLT h d with | some l => Qd (.lst l) h | none => False) := w
      cases e : asLT h d with
      | none => rw [e] at w; exact False.elim w
      | some l =>
        rw [e] at w
        obtain ⟨a, vs, rfl, q1, q2⟩ := asLT_rep sr.sh a1 e
        refine call_list_of pins s σ H _ us Q I r ⟨a, vs, rfl, hK ▸ q1, fun p hp => ?_⟩
        have g := Grow.new (o := .lst vs) sr.sh.sF hp
        exact k _ _ _ _ _ g.f (sr.grow g) (.lst (SqL.of upd_same) (q2.mono g.f)) w
theorem call_bi_tuple (hK : X.K = T.K) : CallR X (.type "tuple") (rBi T X .tuple) := by
  intro pins s σ H xs us Q I r h
  obtain ⟨F, G, σ', h, τ, ds, Qd, sr, r1, w, k⟩ := h
  cases r1 with
  | nil => exact False.elim w
  | cons a1 a2 =>
    cases a2 with
    | cons _ _ => exact False.elim w
    | nil =>
      rename_i d v
      have w : (match asL h d with | some l => Qd (.tup l) h | none => False) := w
      cases e : asL h d with
      | none => rw [e] at w; exact False.elim w
      | some l =>
        rw [e] at w
        obtain ⟨a, vs, rfl, q1, q2⟩ := asL_rep sr.sh a1 e
        refine call_tuple_of pins s σ H _ us Q I r ⟨a, vs, rfl, .inl ⟨hK ▸ q1, fun p hp => ?_⟩⟩
        have g := Grow.new (o := .tup vs) sr.sh.sF hp
        exact k _ _ _ _ _ g.f (sr.grow g) (.tup (SqT.of upd_same) (q2.mono g.f)) w
theorem call_bi_divmod (hK : X.K = T.K) : CallR X (.builtin "divmod") (rBi T X .divmod) := by
  intro pins s σ H xs us Q I r h
  obtain ⟨F, G, σ', h, τ, ds, Qd, sr, r1, w, k⟩ := h
  cases r1 with
  | nil => exact False.elim w
  | cons a1 a2 =>
    cases a2 with
    | nil => cases a1 <;> exact False.elim w
    | cons b1 b2 =>
      cases b2 with
      | cons _ _ => cases a1 <;> cases b1 <;> exact False.elim w
      | nil =>
        cases a1 <;> cases b1 <;> first | exact False.elim w | skip
        rename_i i j
        have w : (0 < j ∧ bitsI j ≤ 9000) ∧ Qd (.tup [.int (i / j), .int (i % j)]) h := w
        refine call_divmodW pins s σ H _ us Q I r ⟨i, j, rfl, ⟨w.1.1, noPy w.1.2⟩, fun p hp => ?_⟩
        have g := Grow.new (o := .tup [.int (i / j), .int (i % j)]) sr.sh.sF hp
        exact k _ _ _ _ _ g.f (sr.grow g) (.tup (SqT.of upd_same) (.cons .int (.cons .int .nil))) w.2
end
end FF
namespace FF
open PySem PySem.Spec PyProof.Rows L2
/-! ### shapes of the text -/
def noStar : Expr → Bool
  | .Starred _ _ => false
  | _ => true
def noSuper : Expr → Bool
  | .Call (.Name id _) [] [] _ => id != "super"
  | _ => true
/-- its truth is its value's -/
def plainT : Expr → Bool
  | .UnaryOp .Not _ _ => false
  | .BoolOp _ _ _ => false
  | .IfExp _ _ _ _ => false
  | .Compare _ _ _ _ => false
  | _ => true
def noSlice : Expr → Bool
  | .Slice _ _ _ _ => false
  | _ => true
theorem star_cons {e : Expr} {es : List Expr} {env : PySem.Env} (h : noStar e = true) : starEach (e :: es) env = (false, eval e env) :: starEach es env := by
  cases e <;> first | rfl | cases h
theorem star_any {pos : Pos} {env : PySem.Env} : ∀ {es : List Expr}, es.all noStar = true → (backTo pos (starEach es env)).any (·.1) = false
  | [], _ => rfl
  | e :: es, h => by
    rw [List.all_cons, Bool.and_eq_true] at h
    rw [star_cons h.1]
    exact star_any h.2
theorem star_all {pos : Pos} {env : PySem.Env} : ∀ {es : List Expr}, es.all noStar = true → (backTo pos (starEach es env)).all (!·.1) = true
  | [], _ => rfl
  | e :: es, h => by
    rw [List.all_cons, Bool.and_eq_true] at h
    rw [star_cons h.1]
    exact star_all h.2
theorem base_ok {e : Expr} {f : Str} {env : PySem.Env} (h : noSuper e = true) : attributeBase e f env (eval e env) = eval e env := by
  cases e with
  | Call g as ks pos =>
    cases g with
    | Name id p =>
      cases as with
      | nil =>
        cases ks with
        | nil =>
          have h : (id != "super") = true := h
          unfold attributeBase
          simp only [h, Bool.true_or, if_true]
        | cons _ _ => rfl
      | cons _ _ => rfl
    | _ => rfl
  | _ => rfl
theorem true_ok {e : Expr} {env : PySem.Env} (h : plainT e = true) : ∀ whole, isTrue e env whole = (do let v ← whole; standAt e.pos; holding [v] (truthy v)) := by
  intro whole
  cases e with
  | UnaryOp op a p => cases op <;> first | rfl | cases h
  | BoolOp _ _ _ => cases h
  | IfExp _ _ _ _ => cases h
  | Compare _ _ _ _ => cases h
  | _ => rfl
theorem ix_ok {e : Expr} (h : noSlice e = true) : PlainIx e := by
  intro o i
  cases e <;> first | rfl | cases h
theorem meth_ok {o e : Expr} {m : Str} {apos pos : Pos} {es : List Expr} {env : PySem.Env} (hb : noSuper o = true) (hl : (apos.endLine == pos.line) = true) (hs : (es).all noStar = true) (hn : es.length < 30) : ∃ pl, eval (.Call (.Attribute o m apos) es [] pos) env = (do
      let ov ← eval o env
      standAt apos.atName
      let (f, first) ← holding [ov] (getMethod ov m pl)
      callWith pos f first (backTo pos (starEach es env)) (backToKw pos (keywordEach [] env))) := by
  have hf : methodCallForm (es.length + 0) (backTo pos (starEach es env)) (backToKw pos (keywordEach [] env)) = true := by
    unfold methodCallForm
    rw [star_all hs]
    simp [backToKw, keywordEach, hn]
  refine ⟨(do return (← importBound o env).getD true), ?_⟩
  show (do
      let ov ← attributeBase o m env (eval o env)
      standAt apos.atName
      methodCall o m apos pos env ov (es.length + 0) (backTo pos (starEach es env)) (backToKw pos (keywordEach [] env))) = _
  rw [base_ok hb]
  unfold methodCall
  rw [hf]
  simp only [calleeOf, methodCallPos, hl, Bool.not_true, Bool.false_or, if_true, pure_bind]
section
variable {X : Cx} {T : Tb} {RR : RRt}
/-! ### names, constants -/
theorem le_var {Γ : Gam} {i : Nat} {x : Str} {pos : Pos} (hN : X.N[i]? = some x) (hv : Vis X.env.scope x) (hd : (x == ("__debug__" : Str)) = false) (hcd : (x == ("__classdict__" : Str)) = false) : PE X (.Name x pos) (LE T X RR (wpE Γ (.var i))) := by
  refine PE.imp (pe_var hN hv hd hcd) fun τ H Q ⟨F, G, σ, h, Qd, sr, w, k⟩ => ?_
  have w : (match σ.at i with | .val d => Qd d h | _ => False) := w
  cases e : σ.at i with
  | val d =>
    rw [e] at w
    obtain ⟨v, e1, r⟩ := sr.val e
    exact ⟨v, e1, k d h v F H (Same.refl _) sr r w⟩
  | _ => rw [e] at w; exact False.elim w
theorem le_const {w : Env → AH → QE → RE → Prop} {e : Expr} {v : V} {d : D} (he : PE X e (tC v)) (hr : ∀ F, Rep T F d v) (hw : ∀ σ h Q R, w σ h Q R → Q d h) : PE X e (LE T X RR w) :=
  PE.imp he fun τ H Q ⟨F, G, σ, h, Qd, sr, q, k⟩ => k d h v F H (Same.refl _) sr (hr F) (hw _ _ _ _ q)
/-! ### operators -/
theorem le_bin {Γ : Gam} {op : BOp} {a b : E} {ea eb : Expr} {pos : Pos} (hK : X.K = T.K) (ha : PE X ea (LE T X RR (wpE Γ a))) (hb : PE X eb (LE T X RR (wpE Γ b))) : PE X (.BinOp ea (opM op) eb pos) (LE T X RR (wpE Γ (.bin op a b))) :=
  PE.imp (pe_op (op_bin (T := T) hK op) ha hb) fun τ H Q h => le_op (f := fun x y h Q => wBin op x y fun z => Q z h) h
theorem nomark_ok {op : COp} {e : Expr} (h : (∀ es k p, e ≠ .Set es k p)) : behindInMarks (copM op) e = false := by
  cases e with
  | Set es k p => exact absurd rfl (h es k p)
  | _ => cases op <;> rfl
theorem le_cmp {Γ : Gam} {op : COp} {a b : E} {ea eb : Expr} {pos : Pos} (hK : X.K = T.K) (hu : X.A.units + 64 < cLine) (hm : behindInMarks (copM op) eb = false) (ha : PE X ea (LE T X RR (wpE Γ a))) (hb : PE X eb (LE T X RR (wpE Γ b))) : PE X (.Compare ea [copM op] [eb] pos) (LE T X RR (wpE Γ (.cmp op a b))) :=
  PE.imp (pe_cmpR (op_cmp (T := T) hK hu op) ha hb hm) fun τ H Q h => le_op (f := fun x y h Q => wCmp op x y fun k => Q (.bl k) h) h
def lemN (b : Bool) : COp := if b then .ne else .eq
theorem op_lemp (hK : X.K = T.K) (hu : X.A.units + 64 < cLine) (neg : Bool) : OpR X (compareOp (copM (lemN neg))) (L2op T X fun x y h Q => lemW neg h x y fun d => Q d h) := by
  intro pins s σ H x y v u Q I rx ry h
  obtain ⟨F, G, σ', h, τ, dx, dy, Qd, sr, r1, r2, w, k⟩ := h
  cases el : asL h dx with
  | some l =>
    obtain ⟨a, vs, e0, q1, l1⟩ := asL_rep sr.sh r1 el
    cases e0
    unfold lemW at w
    rw [el] at w
    cases r2 with
    | lst q2 l2 =>
      cases l2 with
      | nil =>
        rename_i b
        have w : Qd (.bl (if neg then !l.isEmpty else l.isEmpty)) h := w
        cases rx
        cases ry
        obtain ⟨i1, v1, p1, z1⟩ := I.list (hK ▸ q1)
        obtain ⟨i2, v2, p2, z2⟩ := I.list (hK ▸ sr.sh.sF.seq q2)
        have e2 : i2.toArray.size = 0 := by
          rw [List.size_toArray]
          exact v2.length.symm
        have e1 : i1.toArray.size = l.length := by
          rw [List.size_toArray]
          exact (l1.length.trans v1.length).symm
        have fin : ∀ c : Bool, c = (if neg then !l.isEmpty else l.isEmpty) → EP X pins σ Q (.bool c) s := fun c hc => ⟨.bl c, H, I, rfl, by rw [hc]; exact k _ h _ F H (Same.refl _) sr .bl w⟩
        by_cases c : l = []
        · subst c
          have e0 : i1.toArray.size = 0 := e1
          have all : (List.range i1.toArray.size).all (fun _ => true) = true := by rw [e0]; rfl
          cases neg with
          | false => exact PySem.SeqAt.eq_listAt p1.isList p2.isList (by omega) (by omega) (e := fun _ => true) (fun j h1 _ => absurd h1 (by omega)) (fin _ all)
          | true => exact PySem.SeqAt.RcNeAt.lists p1.isList p2.isList (by omega) (by omega) (e := fun _ => true) (fun j h1 _ => absurd h1 (by omega)) X.prog X.w _ _ (fin _ (by rw [all]; rfl))
        · have l1' : 1 ≤ l.length := List.length_pos_iff.mpr c
          have ne : (i1.toArray.size != i2.toArray.size) = true := by
            rw [bne_iff_ne]
            omega
          have em : l.isEmpty = false := by cases l with | nil => exact absurd rfl c | cons _ _ => rfl
          cases neg with
          | false => exact PySem.SeqAt.eq_list_lengthsAt p1.isList p2.isList ne (by omega) (fin _ em.symm)
          | true => exact PySem.SeqAt.RcNeAt.lists_lengths p1.isList p2.isList ne (by omega) X.prog X.w _ _ (fin _ (by rw [em]; rfl))
      | cons _ _ => exact False.elim w
    | _ => exact False.elim w
  | none =>
    unfold lemW at w
    rw [el] at w
    exact False.elim w
theorem le_lemp {Γ : Gam} {neg : Bool} {a : E} {ea : Expr} {pos p2 : Pos} (hK : X.K = T.K) (hu : X.A.units + 64 < cLine) (ha : PE X ea (LE T X RR (wpE Γ a))) (hb : PE X (.List [] p2) (LE T X RR (wpE Γ (.lst .nil)))) : PE X (.Compare ea [copM (lemN neg)] [.List [] p2] pos) (LE T X RR (wpE Γ (.lemp neg a))) := by
  exact PE.imp (pe_cmpR (op_lemp (T := T) hK hu neg) ha hb (nomark_ok fun _ _ _ z => by cases z)) fun τ H Q h => le_op (f := fun x y h Q => lemW neg h x y fun d => Q d h) h
theorem lt_lemp {Γ : Gam} {neg : Bool} {a : E} {ea : Expr} {pos p2 : Pos} (hK : X.K = T.K) (hu : X.A.units + 64 < cLine) (ha : PE X ea (LE T X RR (wpE Γ a))) (hb : PE X (.List [] p2) (LE T X RR (wpE Γ (.lst .nil)))) : PT X (.Compare ea [copM (lemN neg)] [.List [] p2] pos) (LT T X RR (wpE Γ (.lemp neg a))) := by
  refine PT.imp (pt_cmpR (op_lemp (T := T) hK hu neg) ha hb (nomark_ok fun _ _ _ z => by cases z)) fun τ H Q ⟨F, G, σ, h, Qd, sr, w, k⟩ => ?_
  have q0 : LE T X RR (wpE Γ (.lemp neg a)) τ H (fun x H' => ∃ k, x = .bl k ∧ Q k H') := by
    refine ⟨F, G, σ, h, (fun x h' => match x with | .bl k => Qd k h' | _ => False), sr, w, fun d h' v F' H' s sr' r q => ?_⟩
    cases r with
    | bl => exact ⟨_, rfl, k _ h' F' H' s sr' q⟩
    | _ => exact False.elim q
  exact le_op (f := fun x y h Q => lemW neg h x y fun d => Q d h) q0
theorem lt_cmp {Γ : Gam} {op : COp} {a b : E} {ea eb : Expr} {pos : Pos} (hK : X.K = T.K) (hu : X.A.units + 64 < cLine) (hm : behindInMarks (copM op) eb = false) (ha : PE X ea (LE T X RR (wpE Γ a))) (hb : PE X eb (LE T X RR (wpE Γ b))) : PT X (.Compare ea [copM op] [eb] pos) (LT T X RR (wpE Γ (.cmp op a b))) := by
  refine PT.imp (pt_cmpR (op_cmp (T := T) hK hu op) ha hb hm) fun τ H Q ⟨F, G, σ, h, Qd, sr, w, k⟩ => ?_
  have q0 : LE T X RR (fun σ h Q R => wpE Γ a σ h (fun x h => wpE Γ b σ h (fun y h => wCmp op x y fun k => Q (.bl k) h) R) R) τ H (fun x H' => ∃ k, x = .bl k ∧ Q k H') := by
    refine ⟨F, G, σ, h, (fun x h' => match x with | .bl k => Qd k h' | _ => False), sr, w, fun d h' v F' H' s sr' r q => ?_⟩
    cases r with
    | bl => exact ⟨_, rfl, k _ h' F' H' s sr' q⟩
    | _ => exact False.elim q
  exact le_op (f := fun x y h Q => wCmp op x y fun k => Q (.bl k) h) q0
/-- a value as a test -/
theorem lt_val {w : Env → AH → QE → RE → Prop} {e : Expr} (hp : plainT e = true) (he : PE X e (LE T X RR w)) : PT X e (LT T X RR w) := by
  refine PT.imp (pt_val he (true_ok hp)) fun τ H Q ⟨F, G, σ, h, Qd, sr, q, k⟩ => ?_
  refine ⟨F, G, σ, h, _, sr, q, fun d h' v F' H' s sr' r q => ?_⟩
  cases r with
  | bl => exact ⟨_, rfl, k _ h' F' H' s sr' q⟩
  | _ => exact False.elim q
theorem le_neg {Γ : Gam} {a : E} {ea : Expr} {pos : Pos} (ha : PE X ea (LE T X RR (wpE Γ a))) : PE X (.UnaryOp .USub ea pos) (LE T X RR (wpE Γ (.neg a))) := by
  refine PE.imp (pe_un un_neg ha) fun τ H Q ⟨F, G, σ, h, Qd, sr, w, k⟩ => ⟨F, G, σ, h, _, sr, w, fun d h' v F' H' s sr' r q => ?_⟩
  cases r with
  | int => exact ⟨_, rfl, k _ h' _ F' H' s sr' .int q⟩
  | _ => exact False.elim q
theorem le_not {Γ : Gam} {a : E} {ea : Expr} {pos : Pos} (ha : PE X ea (LE T X RR (wpE Γ a))) : PE X (.UnaryOp .Not ea pos) (LE T X RR (wpE Γ (.not a))) := by
  refine PE.imp (pe_not ha) fun τ H Q ⟨F, G, σ, h, Qd, sr, w, k⟩ => ⟨F, G, σ, h, _, sr, w, fun d h' v F' H' s sr' r q => ?_⟩
  cases r with
  | bl => exact ⟨_, rfl, k _ h' _ F' H' s sr' .bl q⟩
  | _ => exact False.elim q
theorem lt_not {Γ : Gam} {a : E} {ea : Expr} {pos : Pos} (ha : PT X ea (LT T X RR (wpE Γ a))) : PT X (.UnaryOp .Not ea pos) (LT T X RR (wpE Γ (.not a))) := by
  refine PT.imp (pt_not ha) fun τ H Q ⟨F, G, σ, h, Qd, sr, w, k⟩ => ?_
  refine ⟨F, G, σ, h, fun b h' => Qd (!b) h', sr, ?_, fun b h' F' H' s sr' q => k _ h' F' H' s sr' q⟩
  have w : wpE Γ a σ h (fun x h => match x with | .bl b => (match D.bl (!b) with | .bl k => Qd k h | _ => False) | _ => False) (fun x h' => RR.R x σ h') := w
  exact w
theorem le_and1 {Γ : Gam} {a : E} {ea : Expr} {pos : Pos} (ha : PE X ea (LE T X RR (wpE Γ a))) : PE X (.BoolOp .And [ea] pos) (LE T X RR (wpAnd Γ (.cons a .nil))) := pe_one ha
theorem le_and {Γ : Gam} {a b : E} {r : Es} {ea eb : Expr} {er : List Expr} {pos : Pos} (ha : PE X ea (LE T X RR (wpE Γ a))) (hr : PE X (.BoolOp .And (eb :: er) pos) (LE T X RR (wpAnd Γ (.cons b r)))) : PE X (.BoolOp .And (ea :: eb :: er) pos) (LE T X RR (wpAnd Γ (.cons a (.cons b r)))) := by
  refine PE.imp (pe_and ha hr) fun τ H Q ⟨F, G, σ, h, Qd, sr, w, k⟩ => ⟨F, G, σ, h, _, sr, w, fun d h' v F' H' s sr' r q => ?_⟩
  cases r with
  | bl =>
    rename_i b0
    refine ⟨b0, rfl, ?_⟩
    cases b0 with
    | true => exact ⟨F', G, σ, h', Qd, sr', q, fun d h2 v F2 H2 s2 => k d h2 v F2 H2 (s.trans s2)⟩
    | false => exact k _ h' _ F' H' s sr' .bl q
  | _ => exact False.elim q
theorem le_or1 {Γ : Gam} {a : E} {ea : Expr} {pos : Pos} (ha : PE X ea (LE T X RR (wpE Γ a))) : PE X (.BoolOp .Or [ea] pos) (LE T X RR (wpOr Γ (.cons a .nil))) := pe_one ha
theorem le_or {Γ : Gam} {a b : E} {r : Es} {ea eb : Expr} {er : List Expr} {pos : Pos} (ha : PE X ea (LE T X RR (wpE Γ a))) (hr : PE X (.BoolOp .Or (eb :: er) pos) (LE T X RR (wpOr Γ (.cons b r)))) : PE X (.BoolOp .Or (ea :: eb :: er) pos) (LE T X RR (wpOr Γ (.cons a (.cons b r)))) := by
  refine PE.imp (pe_or ha hr) fun τ H Q ⟨F, G, σ, h, Qd, sr, w, k⟩ => ⟨F, G, σ, h, _, sr, w, fun d h' v F' H' s sr' r q => ?_⟩
  cases r with
  | bl =>
    rename_i b0
    refine ⟨b0, rfl, ?_⟩
    cases b0 with
    | true => exact k _ h' _ F' H' s sr' .bl q
    | false => exact ⟨F', G, σ, h', Qd, sr', q, fun d h2 v F2 H2 s2 => k d h2 v F2 H2 (s.trans s2)⟩
  | _ => exact False.elim q
theorem lw_and1 {Γ : Gam} {a : E} {ea : Expr} {pos : Pos} (ha : PT X ea (LT T X RR (wpE Γ a))) : PW X (.BoolOp .And [ea] pos) (LT T X RR (wpAnd Γ (.cons a .nil))) := pw_and1 ha
theorem lw_and {Γ : Gam} {a b : E} {r : Es} {ea eb : Expr} {er : List Expr} {pos : Pos} (ha : PT X ea (LT T X RR (wpE Γ a))) (hr : PW X (.BoolOp .And (eb :: er) pos) (LT T X RR (wpAnd Γ (.cons b r)))) : PW X (.BoolOp .And (ea :: eb :: er) pos) (LT T X RR (wpAnd Γ (.cons a (.cons b r)))) := by
  refine PW.imp (pw_and ha hr) fun τ H Q ⟨F, G, σ, h, Qd, sr, w, k⟩ => ?_
  refine ⟨F, G, σ, h, fun b0 h' => if b0 = true then wpAnd Γ (.cons b r) σ h' (fun x h' => match x with | .bl k => Qd k h' | _ => False) (fun x h' => RR.R x σ h') else Qd false h', sr, w, fun b0 h' F' H' s sr' q => ?_⟩
  cases b0 with
  | true => exact ⟨F', G, σ, h', Qd, sr', q, fun d h2 F2 H2 s2 => k d h2 F2 H2 (s.trans s2)⟩
  | false => exact k _ h' F' H' s sr' q
theorem lw_or1 {Γ : Gam} {a : E} {ea : Expr} {pos : Pos} (ha : PT X ea (LT T X RR (wpE Γ a))) : PW X (.BoolOp .Or [ea] pos) (LT T X RR (wpOr Γ (.cons a .nil))) := pw_or1 ha
theorem lw_or {Γ : Gam} {a b : E} {r : Es} {ea eb : Expr} {er : List Expr} {pos : Pos} (ha : PT X ea (LT T X RR (wpE Γ a))) (hr : PW X (.BoolOp .Or (eb :: er) pos) (LT T X RR (wpOr Γ (.cons b r)))) : PW X (.BoolOp .Or (ea :: eb :: er) pos) (LT T X RR (wpOr Γ (.cons a (.cons b r)))) := by
  refine PW.imp (pw_or ha hr) fun τ H Q ⟨F, G, σ, h, Qd, sr, w, k⟩ => ?_
  refine ⟨F, G, σ, h, fun b0 h' => if b0 = true then Qd true h' else wpOr Γ (.cons b r) σ h' (fun x h' => match x with | .bl k => Qd k h' | _ => False) (fun x h' => RR.R x σ h'), sr, w, fun b0 h' F' H' s sr' q => ?_⟩
  cases b0 with
  | true => exact k _ h' F' H' s sr' q
  | false => exact ⟨F', G, σ, h', Qd, sr', q, fun d h2 F2 H2 s2 => k d h2 F2 H2 (s.trans s2)⟩
theorem le_ite {Γ : Gam} {c a b : E} {ec ea eb : Expr} {pos : Pos} (hc : PT X ec (LT T X RR (wpE Γ c))) (ha : PE X ea (LE T X RR (wpE Γ a))) (hb : PE X eb (LE T X RR (wpE Γ b))) : PE X (.IfExp ec ea eb pos) (LE T X RR (wpE Γ (.ite c a b))) := by
  refine PE.imp (pe_ifExp hc ha hb) fun τ H Q ⟨F, G, σ, h, Qd, sr, w, k⟩ => ?_
  refine ⟨F, G, σ, h, fun b0 h' => if b0 = true then wpE Γ a σ h' Qd (fun x h' => RR.R x σ h') else wpE Γ b σ h' Qd (fun x h' => RR.R x σ h'), sr, w, fun b0 h' F' H' s sr' q => ?_⟩
  cases b0 with
  | true => exact ⟨F', G, σ, h', Qd, sr', q, fun d h2 v F2 H2 s2 => k d h2 v F2 H2 (s.trans s2)⟩
  | false => exact ⟨F', G, σ, h', Qd, sr', q, fun d h2 v F2 H2 s2 => k d h2 v F2 H2 (s.trans s2)⟩
theorem le_chain0 {Γ : Gam} {o1 o2 : COp} {a b c : E} {τ : L2.St} {H : Hp} {Q : VK} (h : LE T X RR (wpE Γ (.chain o1 o2 a b c)) τ H Q) : tChain (rCmp T X o1) (rCmp T X o2) (LE T X RR (wpE Γ a)) (LE T X RR (wpE Γ b)) (LE T X RR (wpE Γ c)) τ H Q := by
  obtain ⟨F, G, σ, h, Qd, sr, w, k⟩ := h
  refine ⟨F, G, σ, h, _, sr, w, fun dx h1 vx F1 H1 s1 sr1 r1 w1 => ⟨F1, G, σ, h1, _, sr1, w1, fun dy h2 vy F2 H2 s2 sr2 r2 w2 => ?_⟩⟩
  refine ⟨F2, G, σ, h2, τ, dx, dy, fun z h3 => match z with | .bl k => if k = true then wpE Γ c σ h3 (fun z h => wCmp o2 dy z fun k => Qd (.bl k) h) (fun x h' => RR.R x σ h') else Qd (.bl false) h3 | _ => False, sr2.s, r1.mono s2, r2, w2, fun z h' v F' H' s3 sr3' r3 q => ?_⟩
  have sr3 : SR T (RR.lk X) F' G σ h' τ H' := ⟨sr3', sr2.lF.trans s3, sr2.lG⟩
  cases r3 with
  | bl =>
    rename_i b0
    refine ⟨b0, rfl, ?_⟩
    cases b0 with
    | true => exact ⟨F', G, σ, h', _, sr3, q, fun dz h4 vz F4 H4 s4 sr4 r4 w4 => ⟨F4, G, σ, h4, τ, dy, dz, Qd, sr4.s, r2.mono (s3.trans s4), r4, w4, fun z h5 v F5 H5 s5 sr5 r5 q5 => k z h5 v F5 H5 (s1.trans (s2.trans (s3.trans (s4.trans s5)))) ⟨sr5, sr4.lF.trans s5, sr4.lG⟩ r5 q5⟩⟩
    | false => exact k _ h' _ F' H' (s1.trans (s2.trans s3)) sr3 .bl q
  | _ => exact False.elim q
theorem le_chain {Γ : Gam} {o1 o2 : COp} {a b c : E} {ea eb ec : Expr} {pos : Pos} (hK : X.K = T.K) (hu : X.A.units + 64 < cLine) (hm : behindInMarks (copM o2) ec = false)
    (ha : PE X ea (LE T X RR (wpE Γ a))) (hb : PE X eb (LE T X RR (wpE Γ b))) (hc : PE X ec (LE T X RR (wpE Γ c))) : PE X (.Compare ea [copM o1, copM o2] [eb, ec] pos) (LE T X RR (wpE Γ (.chain o1 o2 a b c))) :=
  PE.imp (pe_chain (op_cmp (T := T) hK hu o1) (op_cmp (T := T) hK hu o2) ha hb hc hm) fun τ H Q h => le_chain0 h
theorem lt_chain {Γ : Gam} {o1 o2 : COp} {a b c : E} {ea eb ec : Expr} {pos : Pos} (hK : X.K = T.K) (hu : X.A.units + 64 < cLine) (hm : behindInMarks (copM o2) ec = false)
    (ha : PE X ea (LE T X RR (wpE Γ a))) (hb : PE X eb (LE T X RR (wpE Γ b))) (hc : PE X ec (LE T X RR (wpE Γ c))) : PT X (.Compare ea [copM o1, copM o2] [eb, ec] pos) (LT T X RR (wpE Γ (.chain o1 o2 a b c))) := by
  refine PT.imp (pt_chain (op_cmp (T := T) hK hu o1) (op_cmp (T := T) hK hu o2) ha hb hc hm) fun τ H Q ⟨F, G, σ, h, Qd, sr, w, k⟩ => ?_
  refine le_chain0 ⟨F, G, σ, h, (fun x h' => match x with | .bl k => Qd k h' | _ => False), sr, w, fun d h' v F' H' s sr' r q => ?_⟩
  cases r with
  | bl => exact ⟨_, rfl, k _ h' F' H' s sr' q⟩
  | _ => exact False.elim q
end
end FF
namespace FF
open PySem PySem.Spec PyProof.Rows L2
/-- a def's promise, from its specification -/
def prom (T : Tb) (sp : Spec) : Sp := fun vs H Q E => ∃ F G h ds Qd Rd, Reps T F ds vs ∧ SH T F G h H ∧ sp ds h Qd Rd ∧
  (∀ d h' v F' H', Same F F' → SH T F' G h' H' → Rep T F' d v → Qd d h' → Q v H') ∧
  (∀ x h' F' H' dd v, Same F F' → SH T F' G h' H' → F' dd = some (.xd [(T.xf x.c, v)]) → Rep T F' x.v v → Rd x h' → E (.ref (T.cA x.c)) (some dd) H')
/-- what is wanted of an exception, in the layer's words -/
def WR (T : Tb) (X : Cx) (RR : RRt) : WX := fun cls d τ H => ∃ F G σ h x dd v, cls = .ref (T.cA x.c) ∧ d = some dd ∧ SR T (RR.lk X) F G σ h τ H ∧ F dd = some (.xd [(T.xf x.c, v)]) ∧ Rep T F x.v v ∧ RR.R x σ h
/-- a def that keeps its specification -/
structure Good (P : Program) (w : World) (T : Tb) (mg : Str → Option Value) (base : Heap) (k : Nat) (n : Nat) (sp : Spec) : Prop where
  ex : ∃ (fd : FuncData) (ps : List Str), FnOk P w T.K mg base (L2.CX P w) k (T.fA n) fd ps (prom T sp) ∧ Binds T.K fd ps []
  kp : PySem.W.keepIn T.K (.ref (T.fA n)) = true
theorem Good.mono {P : Program} {w : World} {T : Tb} {mg : Str → Option Value} {base : Heap} {j k n : Nat} {sp : Spec} (g : Good P w T mg base j n sp) (h : j ≤ k) : Good P w T mg base k n sp := by
  obtain ⟨⟨fd, ps, F, b⟩, kp⟩ := g
  exact ⟨⟨fd, ps, F.mono h, b⟩, kp⟩
section
variable {X : Cx} {T : Tb} {RR : RRt}
/-! ### displays -/
theorem la_nil {Γ : Gam} : PA X [] (LA T X RR 0 (wpEs Γ .nil)) :=
  PA.imp pa_nil fun τ H Q ⟨F, G, σ, h, Qd, sr, w, k⟩ => k [] h [] F H rfl (Same.refl _) sr .nil w
theorem la_cons {Γ : Gam} {n : Nat} {a : E} {r : Es} {e : Expr} {es : List Expr} (hs : noStar e = true) (ha : PE X e (LE T X RR (wpE Γ a))) (hr : PA X es (LA T X RR n (wpEs Γ r))) : PA X (e :: es) (LA T X RR (n + 1) (wpEs Γ (.cons a r))) :=
  PA.imp (pa_cons ha hr (star_cons hs)) fun τ H Q ⟨F, G, σ, h, Qd, sr, w, k⟩ => ⟨F, G, σ, h, _, sr, w, fun d h1 v F1 H1 s1 sr1 r1 w1 =>
    ⟨F1, G, σ, h1, _, sr1, w1, fun ds h2 vs F2 H2 l2 s2 sr2 r2 w2 => k _ h2 _ F2 H2 (congrArg (· + 1) l2) (s1.trans s2) sr2 (.cons (r1.mono s2) r2) w2⟩⟩
theorem le_tup {Γ : Gam} {n : Nat} {es : Es} {l : List Expr} {x1 : Nat} {pos : Pos} (h : PA X l (LA T X RR n (wpEs Γ es))) : PE X (.Tuple l x1 pos) (LE T X RR (wpE Γ (.tup es))) :=
  PE.imp (pe_tup h) fun τ H Q ⟨F, G, σ, h, Qd, sr, w, k⟩ => ⟨F, G, σ, h, _, sr, w, fun ds h1 vs F1 H1 _ s1 sr1 r1 ⟨w1, w2⟩ => ⟨by rw [← r1.length, ← SL_eq]; exact w1, fun p hp => by
    have g := Grow.new (o := .tup vs) sr1.sh.sF hp
    exact k _ h1 _ _ _ (s1.trans g.f) (sr1.grow g) (.tup (SqT.of upd_same) (r1.mono g.f)) w2⟩⟩
theorem le_lst {Γ : Gam} {n : Nat} {es : Es} {l : List Expr} {pos : Pos} (h : PA X l (LA T X RR n (wpEs Γ es))) : PE X (.List l pos) (LE T X RR (wpE Γ (.lst es))) :=
  PE.imp (pe_lst h) fun τ H Q ⟨F, G, σ, h, Qd, sr, w, k⟩ => ⟨F, G, σ, h, _, sr, w, fun ds h1 vs F1 H1 _ s1 sr1 r1 ⟨w1, w2⟩ => ⟨by rw [← r1.length, ← SL_eq]; exact w1, fun p hp => by
    have g := Grow.new (o := .lst vs) sr1.sh.sF hp
    exact k _ h1 _ _ _ (s1.trans g.f) (sr1.grow g) (.lst (SqL.of upd_same) (r1.mono g.f)) w2⟩⟩
theorem le_dct {Γ : Gam} {pos : Pos} : PE X (.Dict [] [] pos) (LE T X RR (wpE Γ .dct)) :=
  PE.imp pe_dnewK fun τ H Q ⟨F, G, σ, h, Qd, sr, w, k⟩ p hp => by
    have g := Grow.new (o := .dK []) sr.sh.sF hp
    exact k _ h _ _ _ g.f (sr.grow g) (.dct upd_same) w
theorem hfree {F G : Hp} {h : AH} {H : Hp} (sh : SH T F G h H) {p : Addr} (n : H p = none) : h p = none := by
  cases e : h p with
  | none => rfl
  | some c => obtain ⟨o, ho⟩ := (sh.cell p c e).2.2.there; rw [n] at ho; cases ho
theorem le_refl {Γ : Gam} {n : Nat} {es : Es} {l : List Expr} {pos : Pos} (h : PA X l (LA T X RR n (wpEs Γ es))) : PE X (.List l pos) (LE T X RR (wpE Γ (.refl es))) :=
  PE.imp (pe_lst h) fun τ H Q ⟨F, G, σ, h, Qd, sr, w, k⟩ => ⟨F, G, σ, h, _, sr, w, fun ds h1 vs F1 H1 _ s1 sr1 r1 ⟨w1, w2⟩ => ⟨by rw [← r1.length, ← SL_eq]; exact w1, fun p hp =>
    k _ _ _ F1 _ s1 (sr1.newcell (c := .lst ds) hp ⟨vs, upd_same, r1⟩) .ref (w2 p (hfree sr1.sh hp))⟩⟩
/-! ### calls -/
/-- from a call's wants to the callee's promise -/
theorem prom_of {sp : Spec} {F G : Hp} {σ : Env} {h : AH} {τ : L2.St} {H : Hp} {ds : List D} {vs : List V} {Qd : QE} {Q : VK} (sr : SR T (RR.lk X) F G σ h τ H) (r : Reps T F ds vs) (w : sp ds h Qd (fun x h' => RR.R x σ h'))
    (k : ∀ d h' v F' H', Same F F' → SR T (RR.lk X) F' G σ h' τ H' → Rep T F' d v → Qd d h' → Q v H') : prom T sp vs H Q (WE (WR T X RR) τ) := by
  obtain ⟨G', sh, back⟩ := sr.call
  refine ⟨F, G', h, ds, Qd, _, r, sh, w, fun d h' v F' H' s sh' rv q => k d h' v F' H' s (back F' h' H' s sh') rv q, fun x h' F' H' dd v s sh' e rv q => ?_⟩
  exact ⟨F', G, σ, h', x, dd, v, rfl, rfl, back F' h' H' s sh', e, rv, q⟩
theorem le_call {Γ : Gam} {k n m : Nat} {es : Es} {e : Expr} {l : List Expr} {x : Str} {p pos : Pos} (hK : X.K = T.K) (g : Good X.prog X.w T X.mg X.base k n (Γ.fn n)) (hr : Room k X.A) (hg : Gl X x) (hm : X.mg x = some (.ref (T.fA n)))
    (tk : Takes X (WR T X RR)) (hs : (e :: l).all noStar = true) (hd : (x == ("__debug__" : Str)) = false) (ha : PA X (e :: l) (LA T X RR m (wpEs Γ es))) : PE X (.Call (.Name x p) (e :: l) [] pos) (LE T X RR (wpE Γ (.call n es []))) := by
  obtain ⟨⟨fd, ps, F, b⟩, kp⟩ := g
  have F : FnOk X.prog X.w X.K X.mg X.base (L2.CX X.prog X.w) k (T.fA n) fd ps (prom T (Γ.fn n)) := hK ▸ F
  have b : Binds X.K fd ps [] := hK ▸ b
  have kp : PySem.W.keepIn X.K (.ref (T.fA n)) = true := hK ▸ kp
  have hs' : noStar e = true ∧ l.all noStar = true := by rw [List.all_cons, Bool.and_eq_true] at hs; exact hs
  refine PE.imp (pe_callSD F hr hg hm kp b .nil (fun τ => passAt tk τ) ha hd (star_cons hs'.1) (star_any hs'.2)) fun τ H Q ⟨F, G, σ, h, Qd, sr, w, k⟩ => ?_
  exact ⟨F, G, σ, h, _, sr, w, fun ds h1 vs F1 H1 _ s1 sr1 r1 w1 => by
      rw [List.append_nil] at w1
      rw [List.append_nil]
      exact prom_of sr1 r1 w1 fun d h' v F' H' s => k d h' v F' H' (s1.trans s)⟩
theorem le_call0 {Γ : Gam} {k n : Nat} {x : Str} {p pos : Pos} (hK : X.K = T.K) (g : Good X.prog X.w T X.mg X.base k n (Γ.fn n)) (hr : Room k X.A) (hg : Gl X x) (hm : X.mg x = some (.ref (T.fA n)))
    (tk : Takes X (WR T X RR)) (hd : (x == ("__debug__" : Str)) = false) : PE X (.Call (.Name x p) [] [] pos) (LE T X RR (wpE Γ (.call n .nil []))) := by
  obtain ⟨⟨fd, ps, F, b⟩, kp⟩ := g
  have F : FnOk X.prog X.w X.K X.mg X.base (L2.CX X.prog X.w) k (T.fA n) fd ps (prom T (Γ.fn n)) := hK ▸ F
  have b : Binds X.K fd ps [] := hK ▸ b
  have kp : PySem.W.keepIn X.K (.ref (T.fA n)) = true := hK ▸ kp
  refine ⟨fun pins s τ H Q I ⟨F0, G, σ, h, Qd, sr, w, k⟩ => ?_⟩
  refine wpAny_Call_Name_kw (ld_glob I hg hm ?_ hd)
  refine PySem.W.callWith_K0 I.kIn kp (run_fnSD (us := []) (vs := []) (E := WE (WR T X RR)) F hr b .nil (passAt tk τ) I .nil ?_)
  exact prom_of sr (.nil) w k
/-- the defaults -/
structure GoodD (P : Program) (w : World) (T : Tb) (mg : Str → Option Value) (base : Heap) (k : Nat) (n : Nat) (dv : List D) (sp : Spec) : Prop where
  ex : ∃ (fd : FuncData) (ps : List Str) (dvs : List V) (us : List Value), FnOk P w T.K mg base (L2.CX P w) k (T.fA n) fd ps (prom T sp) ∧ Binds T.K fd ps us ∧ Vals dvs us ∧ ∀ F, Reps T F dv dvs
  kp : PySem.W.keepIn T.K (.ref (T.fA n)) = true
theorem le_callD {Γ : Gam} {k n m : Nat} {dv : List D} {es : Es} {e : Expr} {l : List Expr} {x : Str} {p pos : Pos} (hK : X.K = T.K) (g : GoodD X.prog X.w T X.mg X.base k n dv (Γ.fn n)) (hr : Room k X.A) (hg : Gl X x) (hm : X.mg x = some (.ref (T.fA n)))
    (tk : Takes X (WR T X RR)) (hs : (e :: l).all noStar = true) (hd : (x == ("__debug__" : Str)) = false) (ha : PA X (e :: l) (LA T X RR m (wpEs Γ es))) : PE X (.Call (.Name x p) (e :: l) [] pos) (LE T X RR (wpE Γ (.call n es dv))) := by
  obtain ⟨⟨fd, ps, dvs, us, F, b, rv, rd⟩, kp⟩ := g
  have F : FnOk X.prog X.w X.K X.mg X.base (L2.CX X.prog X.w) k (T.fA n) fd ps (prom T (Γ.fn n)) := hK ▸ F
  have b : Binds X.K fd ps us := hK ▸ b
  have kp : PySem.W.keepIn X.K (.ref (T.fA n)) = true := hK ▸ kp
  have hs' : noStar e = true ∧ l.all noStar = true := by rw [List.all_cons, Bool.and_eq_true] at hs; exact hs
  refine PE.imp (pe_callSD F hr hg hm kp b rv (fun τ => passAt tk τ) ha hd (star_cons hs'.1) (star_any hs'.2)) fun τ H Q ⟨F, G, σ, h, Qd, sr, w, k⟩ => ?_
  exact ⟨F, G, σ, h, _, sr, w, fun ds h1 vs F1 H1 _ s1 sr1 r1 w1 => prom_of sr1 (r1.append (rd F1)) w1 fun d h' v F' H' s => k d h' v F' H' (s1.trans s)⟩
/-- a call with keywords: how the arguments go to the parameters -/
structure GoodK (P : Program) (w : World) (T : Tb) (mg : Str → Option Value) (base : Heap) (k : Nat) (n : Nat) (m : Nat) (ks : List Str) (perm : List Nat) (sp : Spec) : Prop where
  ex : ∃ (fd : FuncData) (ps : List Str), FnOk P w T.K mg base (L2.CX P w) k (T.fA n) fd ps (prom T sp) ∧
    ∀ (s : Shared) (us ws : List Value), T.K.In s.heap → us.length = m → ws.length = ks.length → BindsTo s fd ⟨us, ks.zip ws⟩ (ps.zip (perm.filterMap ((us ++ ws)[·]?)))
  kp : PySem.W.keepIn T.K (.ref (T.fA n)) = true
theorem vals_perm {vs : List V} {us : List Value} (r : Vals vs us) : ∀ (p : List Nat), Vals (p.filterMap (vs[·]?)) (p.filterMap (us[·]?))
  | [] => .nil
  | i :: p => by
    rw [List.filterMap_cons, List.filterMap_cons]
    cases e : vs[i]? with
    | none => rw [r.none_of e]; exact vals_perm r p
    | some v =>
      obtain ⟨u, hu, ru⟩ := r.get e
      rw [hu]
      exact .cons ru (vals_perm r p)
theorem reps_perm {F : Hp} {ds : List D} {vs : List V} (r : Reps T F ds vs) : ∀ (p : List Nat), Reps T F (permD p ds) (p.filterMap (vs[·]?))
  | [] => .nil
  | i :: p => by
    unfold permD
    rw [List.filterMap_cons, List.filterMap_cons]
    cases e : ds[i]? with
    | none =>
      have : vs[i]? = none := List.getElem?_eq_none_iff.mpr (by rw [← r.length]; exact List.getElem?_eq_none_iff.mp e)
      rw [this]
      exact reps_perm r p
    | some v =>
      obtain ⟨u, hu, ru⟩ := r.get e
      rw [hu]
      exact .cons ru (reps_perm r p)
theorem run_fnKD {k m : Nat} {f : Addr} {fd : FuncData} {ps ks : List Str} {perm : List Nat} {sp : Sp} {E : L2.St → XK} {pins : List (Addr × Obj)} {σ : L2.St} {H : Hp} {s : Shared} {Q : VK} {us ws : List Value} {vs zs : List V}
    (F : FnOk X.prog X.w X.K X.mg X.base (L2.CX X.prog X.w) k f fd ps sp) (hr : Room k X.A)
    (hb : ∀ (s : Shared) (us ws : List Value), X.K.In s.heap → us.length = m → ws.length = ks.length → BindsTo s fd ⟨us, ks.zip ws⟩ (ps.zip (perm.filterMap ((us ++ ws)[·]?))))
    (hx : PassesAt (L2.CX X.prog X.w) X σ (E σ)) (I : Inv X pins σ H s) (r : Vals vs us) (rz : Vals zs ws) (l1 : vs.length = m) (l2 : zs.length = ks.length) (h : sp (perm.filterMap ((vs ++ zs)[·]?)) H Q (E σ)) : wpAny (model X.prog X.w) X.A (call (.ref f) us (ks.zip ws)) (EP X pins σ Q) X.xe s := by
  have r2 := vals_perm (r.append rz) perm
  refine wpAny_call (codeAny_mono (F.run X.A X.stack s H ⟨us, ks.zip ws⟩ _ _ Q (E σ) hr I.env0 (hb s us ws I.kIn (r.length.symm.trans l1) (rz.length.symm.trans l2)) r2 h) fun r s' hq => ?_)
  cases r with
  | error e => exact hx pins H s e s' I hq
  | ok fl =>
    cases fl with
    | ret u => exact I.after hq
    | next => exact False.elim hq
    | brk => exact False.elim hq
    | cont => exact False.elim hq
/-- the keywords' values -/
theorem lk_nil {Γ : Gam} : PK X [] (LA T X RR 0 (wpEs Γ .nil)) :=
  ⟨fun pos pins s τ H Q I ⟨F, G, σ, h, Qd, sr, w, k⟩ => pk_nil.run pos pins s τ H Q I (k [] h [] F H rfl (Same.refl _) sr .nil w)⟩
theorem lk_cons {Γ : Gam} {n : Nat} {a : E} {r : Es} {e : Expr} {kws : List Keyword} {nm : Option Str} {kpos : Pos} (ha : PE X e (LE T X RR (wpE Γ a))) (hr : PK X kws (LA T X RR n (wpEs Γ r))) : PK X (⟨nm, e, kpos⟩ :: kws) (LA T X RR (n + 1) (wpEs Γ (.cons a r))) :=
  ⟨fun pos pins s τ H Q I ⟨F, G, σ, h, Qd, sr, w, k⟩ => (pk_cons ha hr).run pos pins s τ H Q I ⟨F, G, σ, h, _, sr, w, fun d h1 v F1 H1 s1 sr1 r1 w1 =>
    ⟨F1, G, σ, h1, _, sr1, w1, fun ds h2 vs F2 H2 l2 s2 sr2 r2 w2 => k _ h2 _ F2 H2 (congrArg (· + 1) l2) (s1.trans s2) sr2 (.cons (r1.mono s2) r2) w2⟩⟩⟩
theorem kw_all {pos : Pos} {env : PySem.Env} {ks : List Str} : ∀ {kws : List Keyword}, kws.map (·.arg) = ks.map some → (backToKw pos (keywordEach kws env)).all (·.1.isSome) = true ∧ (backToKw pos (keywordEach kws env)).filterMap (·.1) = ks ∧ (backToKw pos (keywordEach kws env)).any (·.1.isNone) = false := by
  induction ks with
  | nil =>
    intro kws h
    have : kws = [] := by simpa using h
    subst this
    exact ⟨rfl, rfl, rfl⟩
  | cons x ks ih =>
    intro kws h
    cases kws with
    | nil => simp at h
    | cons q kws =>
      obtain ⟨nm, e, p⟩ := q
      simp only [List.map_cons, List.cons.injEq] at h
      obtain ⟨h1, h2⟩ := h
      obtain ⟨a, b, c⟩ := ih h2
      have h1 : nm = some x := h1
      subst h1
      refine ⟨?_, ?_, ?_⟩
      · simp only [keywordEach, backToKw, List.map_cons, List.all_cons, Option.isSome_some, Bool.true_and]; exact a
      · simp only [keywordEach, backToKw, List.map_cons, List.filterMap_cons]; exact congrArg (x :: ·) b
      · simp only [keywordEach, backToKw, List.map_cons, List.any_cons, Option.isNone_some, Bool.false_or]; exact c
theorem le_callK {Γ : Gam} {k n m : Nat} {es kes : Es} {e : Expr} {l : List Expr} {kws : List Keyword} {ks : List Str} {perm : List Nat} {x : Str} {p pos : Pos} (hK : X.K = T.K) (g : GoodK X.prog X.w T X.mg X.base k n m ks perm (Γ.fn n)) (hr : Room k X.A) (hg : Gl X x) (hm : X.mg x = some (.ref (T.fA n)))
    (tk : Takes X (WR T X RR)) (hs : (e :: l).all noStar = true) (hd : (x == ("__debug__" : Str)) = false) (hks : kws.map (·.arg) = ks.map some) (ha : PA X (e :: l) (LA T X RR m (wpEs Γ es))) (hkw : PK X kws (LA T X RR ks.length (wpEs Γ kes))) : PE X (.Call (.Name x p) (e :: l) kws pos) (LE T X RR (wpE Γ (.callk n es kes perm))) := by
  obtain ⟨⟨fd, ps, F, b⟩, kp⟩ := g
  have F : FnOk X.prog X.w X.K X.mg X.base (L2.CX X.prog X.w) k (T.fA n) fd ps (prom T (Γ.fn n)) := hK ▸ F
  have b : ∀ (s : Shared) (us ws : List Value), X.K.In s.heap → us.length = m → ws.length = ks.length → BindsTo s fd ⟨us, ks.zip ws⟩ (ps.zip (perm.filterMap ((us ++ ws)[·]?))) := hK ▸ b
  have kp : PySem.W.keepIn X.K (.ref (T.fA n)) = true := hK ▸ kp
  have hs' : noStar e = true ∧ l.all noStar = true := by rw [List.all_cons, Bool.and_eq_true] at hs; exact hs
  obtain ⟨a1, a2, a3⟩ := kw_all (pos := pos) (env := X.env) hks
  refine ⟨fun pins s τ H Q I ⟨F0, G, σ, h, Qd, sr, w, kk⟩ => ?_⟩
  refine wpAny_Call_Name_kw (ld_glob I hg hm ?_ hd)
  have hpl : ((backTo pos (starEach (e :: l) X.env)).any (·.1) || (backToKw pos (keywordEach kws X.env)).any (·.1.isNone)) = false := by
    rw [star_any hs, a3]; rfl
  refine PySem.W.callWith_KW (h₀ := X.base) I.ok.mod.kin kp a1 (thn (ha.run pos pins s τ H (fun vs H1 => vs.length = m ∧ LA T X RR ks.length (wpEs Γ kes) τ H1 fun zs H2 => zs.length = ks.length ∧ prom T (Γ.fn n) (perm.filterMap ((vs ++ zs)[·]?)) H2 Q (WE (WR T X RR) τ)) I ?_) fun us s1 ⟨vs, H1, I1, r, l1, q⟩ => ?_) hpl (star_cons hs'.1)
  · refine ⟨F0, G, σ, h, _, sr, w, fun ds h1 vs F1 H1 l1 s1 sr1 r1 w1 => ⟨by rw [← r1.length]; exact l1, F1, G, σ, h1, _, sr1, w1, fun zs h2 us F2 H2 l2 s2 sr2 r2 w2 => ⟨by rw [← r2.length]; exact l2, ?_⟩⟩⟩
    exact prom_of sr2 (reps_perm ((r1.mono s2).append r2) perm) w2 fun d h' v F' H' s => kk d h' v F' H' (s1.trans (s2.trans s))
  · refine thn (hkw.run pos pins s1 τ H1 _ I1 q) fun ws s2 ⟨zs, H2, I2, rz, l2, q2⟩ => ⟨I2.kIn, ?_⟩
    rw [a2]
    exact run_fnKD F hr b (passAt tk τ) I2 r rz l1 l2 q2
theorem le_callK0 {Γ : Gam} {k n : Nat} {kes : Es} {kws : List Keyword} {ks : List Str} {perm : List Nat} {x : Str} {p pos : Pos} (hK : X.K = T.K) (g : GoodK X.prog X.w T X.mg X.base k n 0 ks perm (Γ.fn n)) (hr : Room k X.A) (hg : Gl X x) (hm : X.mg x = some (.ref (T.fA n)))
    (tk : Takes X (WR T X RR)) (hd : (x == ("__debug__" : Str)) = false) (hks : kws.map (·.arg) = ks.map some) (hkw : PK X kws (LA T X RR ks.length (wpEs Γ kes))) : PE X (.Call (.Name x p) [] kws pos) (LE T X RR (wpE Γ (.callk n .nil kes perm))) := by
  obtain ⟨⟨fd, ps, F, b⟩, kp⟩ := g
  have F : FnOk X.prog X.w X.K X.mg X.base (L2.CX X.prog X.w) k (T.fA n) fd ps (prom T (Γ.fn n)) := hK ▸ F
  have b : ∀ (s : Shared) (us ws : List Value), X.K.In s.heap → us.length = 0 → ws.length = ks.length → BindsTo s fd ⟨us, ks.zip ws⟩ (ps.zip (perm.filterMap ((us ++ ws)[·]?))) := hK ▸ b
  have kp : PySem.W.keepIn X.K (.ref (T.fA n)) = true := hK ▸ kp
  obtain ⟨a1, a2, a3⟩ := kw_all (pos := pos) (env := X.env) hks
  refine ⟨fun pins s τ H Q I ⟨F0, G, σ, h, Qd, sr, w, kk⟩ => ?_⟩
  refine wpAny_Call_Name_kw (ld_glob I hg hm ?_ hd)
  have hpl : ((backTo pos (starEach [] X.env)).any (·.1) || (backToKw pos (keywordEach kws X.env)).any (·.1.isNone)) = false := by
    rw [a3]; rfl
  refine PySem.W.callWith_KW0 (h₀ := X.base) I.ok.mod.kin kp a1 (thn (hkw.run pos pins s τ H (fun zs H2 => zs.length = ks.length ∧ prom T (Γ.fn n) (perm.filterMap ((([] : List V) ++ zs)[·]?)) H2 Q (WE (WR T X RR) τ)) I ?_) fun ws s2 ⟨zs, H2, I2, rz, l2, q2⟩ => ⟨I2.kIn, ?_⟩) hpl
  · refine ⟨F0, G, σ, h, _, sr, w, fun zs h2 us F2 H2 l2 s2 sr2 r2 w2 => ⟨by rw [← r2.length]; exact l2, ?_⟩⟩
    exact prom_of sr2 (reps_perm (Reps.append .nil r2) perm) w2 fun d h' v F' H' s => kk d h' v F' H' (s2.trans s)
  · rw [a2]
    exact run_fnKD (us := []) (vs := []) F hr b (passAt tk τ) I2 .nil rz rfl l2 q2
/-- a local that holds a def -/
theorem le_callv {Γ : Gam} {k i m : Nat} {es : Es} {e : Expr} {l : List Expr} {x : Str} {p pos : Pos} (hK : X.K = T.K) (g : ∀ n, Γ.cvs n → (∃ ds h Q R, Γ.fn n ds h Q R) → Good X.prog X.w T X.mg X.base k n (Γ.fn n)) (hr : Room k X.A)
    (hN : X.N[i]? = some x) (hv : Vis X.env.scope x) (hd : (x == ("__debug__" : Str)) = false) (hcd : (x == ("__classdict__" : Str)) = false) (hclo : ∀ n vs ds h Q R, ¬ Γ.clo n vs ds h Q R)
    (tk : Takes X (WR T X RR)) (hs : (e :: l).all noStar = true) (ha : PA X (e :: l) (LA T X RR m (wpEs Γ es))) (hkp : ∀ n, Γ.cvs n → PySem.W.keepIn T.K (.ref (T.fA n)) = true) : PE X (.Call (.Name x p) (e :: l) [] pos) (LE T X RR (wpE Γ (.callv i es))) := by
  have hs' : noStar e = true ∧ l.all noStar = true := by rw [List.all_cons, Bool.and_eq_true] at hs; exact hs
  refine ⟨fun pins s τ H Q I ⟨F0, G, σ, h, Qd, sr, w, kk⟩ => ?_⟩
  have w : (match σ.at i with
    | .val (.fn n) => Γ.cvs n ∧ wpEs Γ es σ h (fun ds h => Γ.fn n ds h Qd (fun x h' => RR.R x σ h')) (fun x h' => RR.R x σ h')
    | .val (.clo n vs) => wpEs Γ es σ h (fun ds h => Γ.clo n vs ds h Qd (fun x h' => RR.R x σ h')) (fun x h' => RR.R x σ h')
    | _ => False) := w
  cases e0 : σ.at i with
  | val d =>
    rw [e0] at w
    obtain ⟨v, e1, r⟩ := sr.val e0
    cases r with
    | fn =>
      rename_i n
      obtain ⟨hn, w⟩ := w
      refine wpAny_Call_Name_kw (thn ((pe_var (pos := p) hN hv hd hcd).run pins s τ H (fun v H1 => v = .ref (T.fA n) ∧ H1 = H) I ⟨_, e1, rfl, rfl⟩) fun u s1 ⟨v, H1, I1, r1, q1⟩ => ?_)
      obtain ⟨rfl, rfl⟩ := q1
      cases r1
      refine PySem.W.callWith_K (h₀ := X.base) I.ok.mod.kin (hK ▸ hkp n hn) (thn (ha.run pos pins s1 τ _ (fun vs H1 => (∃ ds h Q R, Γ.fn n ds h Q R) ∧ prom T (Γ.fn n) vs H1 Q (WE (WR T X RR) τ)) I1 ?_) fun us s2 ⟨vs, H2, I2, r, ⟨ex, q⟩⟩ => ⟨I2.kIn, ?_⟩) (star_cons hs'.1) (star_any hs'.2)
      · exact ⟨F0, G, σ, h, _, sr, w, fun ds h1 vs F1 H1 l1 s1 sr1 r1 w1 => ⟨⟨_, _, _, _, w1⟩, prom_of sr1 r1 w1 fun d h' v F' H' s => kk d h' v F' H' (s1.trans s)⟩⟩
      · obtain ⟨⟨fd, ps, F, b⟩, kp⟩ := g n hn ex
        have F : FnOk X.prog X.w X.K X.mg X.base (L2.CX X.prog X.w) k (T.fA n) fd ps (prom T (Γ.fn n)) := hK ▸ F
        have b : Binds X.K fd ps [] := hK ▸ b
        refine run_fnSD (dvs := []) (E := WE (WR T X RR)) F hr b .nil (passAt tk τ) I2 r ?_
        rw [List.append_nil]
        exact q
    | _ => exact False.elim w
  | _ => rw [e0] at w; exact False.elim w
/-! ### objects -/
theorem le_fld {Γ : Gam} {f : Nat} {o : E} {e : Expr} {x : Str} {pos : Pos} (hK : X.K = T.K) (hx : T.tbl[f]? = some x) (hb : noSuper e = true) (he : PE X e (LE T X RR (wpE Γ o))) : PE X (.Attribute e x pos) (LE T X RR (wpE Γ (.fld o f))) := by
  refine PE.imp (pe_fld he (base_ok hb)) fun τ H Q ⟨F, G, σ, h, Qd, sr, w, k⟩ => ⟨F, G, σ, h, _, sr, w, fun d h1 v F1 H1 s1 sr1 r1 w1 => ?_⟩
  have w1 : (match d.asObj h1 with | some (_, fs) => (match getF f fs with | some d => Qd d h1 | none => False) | none => False) := w1
  cases e1 : d.asObj h1 with
  | none => rw [e1] at w1; exact False.elim w1
  | some q =>
    obtain ⟨c, fs⟩ := q
    rw [e1] at w1
    obtain ⟨a, dx, fvs, rfl, ea, cl, rf⟩ := asObj_rep sr1.sh r1 e1
    cases e2 : getF f fs with
    | none => simp only [e2] at w1
    | some y =>
      simp only [e2] at w1
      obtain ⟨u, e3, r3, na⟩ := RepF.get hx rf e2
      exact ⟨a, T.cA c, dx, fvs, u, rfl, ea, hK ▸ cl, hK ▸ na, e3, k _ h1 _ F1 H1 s1 sr1 r3 w1⟩
/-- a method -/
structure GoodM (P : Program) (w : World) (T : Tb) (mg : Str → Option Value) (base : Heap) (k : Nat) (n c : Nat) (m : Str) (sp : Spec) : Prop where
  ex : ∃ (fd : FuncData) (ps : List Str), FnOk P w T.K mg base (L2.CX P w) k (T.fA n) fd ps (prom T sp) ∧ Binds T.K fd ps []
  me : Meth T.K (T.cA c) m (T.fA n)
theorem meth_go {X : Cx} {CX : CXT} {k : Nat} {f C : Addr} {fd : FuncData} {ps : List Str} {sp : Sp} {E : L2.St → XK} {m : Str} {pos apos : Pos} {o : Expr} {es : List Expr} {ta : TE} {t : TA} (he : PE X o ta) (c : Cls X.K C) (hm : Meth X.K C m f) (F : FnOk X.prog X.w X.K X.mg X.base CX k f fd ps sp) (hr : Room k X.A) (hb : Binds X.K fd ps []) (hx : ∀ σ, PassesAt CX X σ (E σ))
    (ha : es = [] ∨ PA X es t) (hs : es.all noStar = true) (hsup : noSuper o = true) (hl : (apos.endLine == pos.line) = true) (hn : es.length < 30) :
    PE X (.Call (.Attribute o m apos) es [] pos) (fun σ H Q => ta σ H fun x H1 => ∃ a dx fs, x = .ref a ∧ H1 a = some (.ins C dx fs) ∧ fs.lookup m = none ∧ ((es = [] ∧ sp [x] H1 Q (E σ)) ∨ (es ≠ [] ∧ t σ H1 fun vs H2 => sp (x :: vs) H2 Q (E σ)))) := by
  obtain ⟨pl, ht⟩ := meth_ok (m := m) (e := .Name m apos) (env := X.env) hsup hl hs hn
  refine ⟨fun pins s σ H Q I h => ?_⟩
  refine PySem.W.methodCall_KW (pl := pl) (thn (he.run pins s σ H _ I h) fun u s1 ⟨x, H1, I1, rx, a, dx, fs, ex, ea, l, q⟩ => ?_) ht
  subst ex
  obtain rfl : u = Value.ref a := rx
  refine getmeth_ok I1 ea c hm l ?_
  cases es with
  | nil =>
    rcases q with ⟨_, q⟩ | ⟨q, _⟩
    · exact PySem.W.callWith_K0 (first := [.ref a]) I1.kIn hm.kp (run_fnSD (E := E) (us := [.ref a]) (vs := [.ref a]) (dvs := []) F hr hb .nil (hx σ) I1 (.cons rfl .nil) q)
    · exact absurd rfl q
  | cons e es =>
    rcases q with ⟨q, _⟩ | ⟨_, q⟩
    · cases q
    · have hs' : noStar e = true ∧ es.all noStar = true := by rw [List.all_cons, Bool.and_eq_true] at hs; exact hs
      have ha : PA X (e :: es) t := ha.elim (fun z => nomatch z) id
      refine PySem.W.callWith_K (first := [.ref a]) (h₀ := X.base) I.ok.mod.kin hm.kp (thn (ha.run pos pins s1 σ H1 _ I1 q) fun us s2 ⟨vs, H2, I2, r, q2⟩ => ⟨I2.kIn, ?_⟩) (star_cons hs'.1) (star_any hs'.2)
      refine run_fnSD (E := E) (us := .ref a :: us) (vs := .ref a :: vs) (dvs := []) F hr hb .nil (hx σ) I2 (.cons rfl r) ?_
      rw [List.append_nil]
      exact q2
theorem le_meth {Γ : Gam} {k n c m : Nat} {o : E} {es : Es} {e : Expr} {l : List Expr} {x : Str} {apos pos : Pos} (hK : X.K = T.K) (g : GoodM X.prog X.w T X.mg X.base k n c x (Γ.fn n)) (cl : Cls T.K (T.cA c)) (hr : Room k X.A)
    (tk : Takes X (WR T X RR)) (hs : l.all noStar = true) (hsup : noSuper e = true) (hl : (apos.endLine == pos.line) = true) (hn : l.length < 30) (he : PE X e (LE T X RR (wpE Γ o))) (ha : (l = [] ∧ es = .nil) ∨ (l ≠ [] ∧ PA X l (LA T X RR m (wpEs Γ es)))) : PE X (.Call (.Attribute e x apos) l [] pos) (LE T X RR (wpE Γ (.meth n c o es []))) := by
  obtain ⟨⟨fd, ps, F, b⟩, me⟩ := g
  have F : FnOk X.prog X.w X.K X.mg X.base (L2.CX X.prog X.w) k (T.fA n) fd ps (prom T (Γ.fn n)) := hK ▸ F
  have b : Binds X.K fd ps [] := hK ▸ b
  refine PE.imp (meth_go (t := LA T X RR m (wpEs Γ es)) (E := WE (WR T X RR)) he (hK ▸ cl) (hK ▸ me) F hr b (fun τ => passAt tk τ) (ha.elim (fun z => .inl z.1) fun z => .inr z.2) hs hsup hl hn) fun τ H Q ⟨F, G, σ, h, Qd, sr, w, k⟩ => ⟨F, G, σ, h, _, sr, w, fun d h1 v F1 H1 s1 sr1 r1 w1 => ?_⟩
  have w1 : (match d.asObj h1 with | some (c', _) => c' = c ∧ wpEs Γ es σ h1 (fun ds h => Γ.fn n (d :: (ds ++ [])) h Qd (fun x h' => RR.R x σ h')) (fun x h' => RR.R x σ h') | none => False) := w1
  cases e1 : d.asObj h1 with
  | none => rw [e1] at w1; exact False.elim w1
  | some q =>
    obtain ⟨c', fs⟩ := q
    rw [e1] at w1
    obtain ⟨ec, w3⟩ := w1
    subst ec
    obtain ⟨a, dx, fvs, rfl, ea, cl', rf⟩ := asObj_rep sr1.sh r1 e1
    refine ⟨a, dx, fvs, rfl, ea, RepF.none me.at_ (by simp) rf, ?_⟩
    rcases ha with ⟨e1, e2⟩ | ⟨e1, _⟩
    · subst e1 e2
      have w4 : Γ.fn n [d] h1 Qd (fun x h' => RR.R x σ h') := w3
      exact .inl ⟨rfl, prom_of sr1 (.cons r1 .nil) w4 fun d h' v F' H' s => k d h' v F' H' (s1.trans s)⟩
    · refine .inr ⟨e1, F1, G, σ, h1, _, sr1, w3, fun ds h2 vs F2 H2 _ s2 sr2 r2 w2 => ?_⟩
      rw [List.append_nil] at w2
      exact prom_of sr2 (.cons (r1.mono s2) r2) w2 fun d h' v F' H' s => k d h' v F' H' (s1.trans (s2.trans s))
/-- a class whose objects are made by __init__ -/
structure GoodI (P : Program) (w : World) (T : Tb) (mg : Str → Option Value) (base : Heap) (k : Nat) (n c : Nat) (sp : Spec) : Prop where
  ex : ∃ (fd : FuncData) (ps : List Str), FnOk P w T.K mg base (L2.CX P w) k (T.fA n) fd ps (prom T sp) ∧ Binds T.K fd ps []
  mkC : Mk T.K (T.cA c) (T.fA n)
  cl : Cls T.K (T.cA c)
theorem run_makeSD {CX : CXT} {k : Nat} {f C : Addr} {fd : FuncData} {ps : List Str} {sp : Sp} {E : L2.St → XK} {pins : List (Addr × Obj)} {σ : L2.St} {H : Hp} {s : Shared} {Q : VK} {us : List Value} {vs : List V} (M : Mk X.K C f) (F : FnOk X.prog X.w X.K X.mg X.base CX k f fd ps sp) (hr : Room (k + 1) X.A) (hb : Binds X.K fd ps [])
    (hx : PassesAt CX X σ (E σ)) (I : Inv X pins σ H s) (r : Vals vs us)
    (h : ∀ x dx, H x = none → H dx = none → dx ≠ x → sp (.ref x :: vs) (upd (upd H dx (.own x)) x (.ins C dx [])) (fun v H2 => v = .non ∧ Q (.ref x) H2) (E σ)) :
    wpAny (model X.prog X.w) X.A (call (.ref C) us) (EP X pins σ Q) X.xe s := by
  have hq := h (s.heap.objs.size + 1) s.heap.objs.size (I.hok.fresh (Nat.le_succ _)) (I.hok.fresh (Nat.le_refl _)) (Nat.ne_of_lt (Nat.lt_succ_self _))
  have I2 := Inv.made (C := C) I
  have r2 : Vals (V.ref (s.heap.objs.size + 1) :: vs) (Value.ref (s.heap.objs.size + 1) :: us) := .cons rfl r
  have hl : (Value.ref (s.heap.objs.size + 1) :: us ++ []).length = ps.length := by
    have e := r2.length
    rw [F.len _ _ _ _ hq] at e
    rw [List.append_nil]
    exact e.symm
  have hb' := hb _ (Value.ref (s.heap.objs.size + 1) :: us) I2.kIn hl
  rw [List.append_nil] at hb'
  refine wpAny_call (make_map (f := f) I.kIn M.makes M.init (beq_iff_eq.mp M.fn) (codeAny_mono (F.run _ X.stack _ _ ⟨Value.ref (s.heap.objs.size + 1) :: us, []⟩ (Value.ref (s.heap.objs.size + 1) :: us) _ _ (E σ) (hr.make C us [])
    (I2.env0.make C us []) hb' r2 hq) fun r s' hq' => ?_))
  cases r with
  | error e => exact hx pins _ _ e s' I2 hq'
  | ok fl =>
    cases fl with
    | ret u =>
      obtain ⟨v, H', I3, rv, ev, q3⟩ := I2.after hq'
      subst ev
      exact ⟨rv, ⟨V.ref (s.heap.objs.size + 1), H', I3, rfl, q3⟩⟩
    | next => exact False.elim hq'
    | brk => exact False.elim hq'
    | cont => exact False.elim hq'
theorem le_make {Γ : Gam} {k n c m : Nat} {fz : Bool} {es : Es} {e : Expr} {l : List Expr} {x : Str} {p pos : Pos} (hK : X.K = T.K) (g : GoodI X.prog X.w T X.mg X.base k n c (Γ.fn n)) (hr : Room (k + 1) X.A) (hg : Gl X x) (hm : X.mg x = some (.ref (T.cA c)))
    (tk : Takes X (WR T X RR)) (hs : (e :: l).all noStar = true) (hd : (x == ("__debug__" : Str)) = false) (ha : PA X (e :: l) (LA T X RR m (wpEs Γ es))) : PE X (.Call (.Name x p) (e :: l) [] pos) (LE T X RR (wpE Γ (.make n c es fz))) := by
  obtain ⟨⟨fd, ps, F, b⟩, mk, cl⟩ := g
  have F : FnOk X.prog X.w X.K X.mg X.base (L2.CX X.prog X.w) k (T.fA n) fd ps (prom T (Γ.fn n)) := hK ▸ F
  have b : Binds X.K fd ps [] := hK ▸ b
  have mk : Mk X.K (T.cA c) (T.fA n) := hK ▸ mk
  have hs' : noStar e = true ∧ l.all noStar = true := by rw [List.all_cons, Bool.and_eq_true] at hs; exact hs
  refine ⟨fun pins s τ H Q I ⟨F0, G, σ, h, Qd, sr, w, kk⟩ => ?_⟩
  refine wpAny_Call_Name_kw (ld_glob I hg hm ?_ hd)
  refine PySem.W.callWith_K (h₀ := X.base) I.ok.mod.kin mk.kp (thn (ha.run pos pins s τ H (fun vs H1 => ∀ x dx, H1 x = none → H1 dx = none → dx ≠ x → prom T (Γ.fn n) (.ref x :: vs) (upd (upd H1 dx (.own x)) x (.ins (T.cA c) dx [])) (fun v H2 => v = .non ∧ Q (.ref x) H2) (WE (WR T X RR) τ)) I ?_) fun us s1 ⟨vs, H1, I1, r, q⟩ => ⟨I1.kIn, ?_⟩) (star_cons hs'.1) (star_any hs'.2)
  · refine ⟨F0, G, σ, h, _, sr, w, fun ds h1 vs F1 H1 _ s1 sr1 r1 w1 x dx nx ndx ne => ?_⟩
    have w1 := w1 x (hfree sr1.sh nx)
    have g1 := Grow.beside (o := .own x) sr1.sh.sF ndx
    have sr2 := sr1.grow g1
    have nx2 : upd H1 dx (.own x) x = none := by rw [upd_ne (Ne.symm ne)]; exact nx
    have sr3 := sr2.newcell (o := .ins (T.cA c) dx []) (c := .obj c []) nx2 ⟨dx, [], upd_same, cl, .nil⟩
    refine prom_of sr3 (.cons .ref r1) w1 fun d h' v F' H' s sr' rv q => ?_
    cases rv with
    | non =>
      refine ⟨rfl, ?_⟩
      cases fz with
      | true =>
        obtain ⟨fs, e1, q⟩ := q
        obtain ⟨_, _, dx', fvs, e2, cl', rf⟩ := sr'.sh.cell x _ e1
        have s2 : Same F' (upd F' x (.ins (T.cA c) dx' fvs)) := fun b u e => by rw [upd_ne (ne_of_none e (sr'.sh.cell x _ e1).1)]; exact e
        exact kk _ _ _ _ _ (s1.trans (s.trans s2)) (sr'.freeze e1 e2) (.obj upd_same cl' (rf.mono s2)) q
      | false => exact kk _ _ _ _ _ (s1.trans s) sr' .ref q
    | _ => exact False.elim q
  · exact run_makeSD (E := WE (WR T X RR)) mk F hr b (passAt tk τ) I1 r q
/-! ### built-ins -/
theorem le_bi {Γ : Gam} {m : Nat} {b : Bi} {es : Es} {e : Expr} {l : List Expr} {id : String} {x : Str} {p pos : Pos} (hc : CallR X (.builtin id) (rBi T X b)) (hg : Gl X x) (hm : X.mg x = none) (hv : bootBuiltins x = some (.builtin id))
    (hn : x ≠ "__name__") (hd : (x == ("__debug__" : Str)) = false) (hs : (e :: l).all noStar = true) (ha : PA X (e :: l) (LA T X RR m (wpEs Γ es))) : PE X (.Call (.Name x p) (e :: l) [] pos) (LE T X RR (wpE Γ (.bi b es))) := by
  have hs' : noStar e = true ∧ l.all noStar = true := by rw [List.all_cons, Bool.and_eq_true] at hs; exact hs
  exact PE.imp (pe_callB hc hg hm hv ha hn hd (star_cons hs'.1) (star_any hs'.2)) fun τ H Q ⟨F, G, σ, h, Qd, sr, w, k⟩ => ⟨F, G, σ, h, _, sr, w, fun ds h1 vs F1 H1 _ s1 sr1 r1 w1 =>
    ⟨F1, G, σ, h1, τ, ds, Qd, sr1.s, r1, w1, fun z h' v F' H' s sr' => k z h' v F' H' (s1.trans s) ⟨sr', sr1.lF.trans s, sr1.lG⟩⟩⟩
theorem le_biT {Γ : Gam} {m : Nat} {b : Bi} {es : Es} {e : Expr} {l : List Expr} {id : String} {x : Str} {p pos : Pos} (hc : CallR X (.type id) (rBi T X b)) (hg : Gl X x) (hm : X.mg x = none) (hv : bootBuiltins x = some (.type id))
    (hn : x ≠ "__name__") (hd : (x == ("__debug__" : Str)) = false) (hs : (e :: l).all noStar = true) (ha : PA X (e :: l) (LA T X RR m (wpEs Γ es))) : PE X (.Call (.Name x p) (e :: l) [] pos) (LE T X RR (wpE Γ (.bi b es))) := by
  have hs' : noStar e = true ∧ l.all noStar = true := by rw [List.all_cons, Bool.and_eq_true] at hs; exact hs
  exact PE.imp (pe_callTy hc hg hm hv ha hn hd (star_cons hs'.1) (star_any hs'.2)) fun τ H Q ⟨F, G, σ, h, Qd, sr, w, k⟩ => ⟨F, G, σ, h, _, sr, w, fun ds h1 vs F1 H1 _ s1 sr1 r1 w1 =>
    ⟨F1, G, σ, h1, τ, ds, Qd, sr1.s, r1, w1, fun z h' v F' H' s sr' => k z h' v F' H' (s1.trans s) ⟨sr', sr1.lF.trans s, sr1.lG⟩⟩⟩
/-! ### subscripts -/
def rIdx (T : Tb) (X : Cx) : R2 := L2op T X fun x y h Q => match y with
    | .int k => match asLT h x with
      | some l => match ixP l.length k with
        | some j => match l[j]? with
          | some d => Q d h
          | none => False
        | none => False
      | none => False
    | _ => False
theorem ix_idx (hK : X.K = T.K) : IxR X (rIdx T X) := by
  intro value slice pins s τ0 H x y v u Q I rx ry h hs
  obtain ⟨F, G, σ, h, τ, dx, dy, Qd, sr, r1, r2, w, k⟩ := h
  cases r2 with
  | int =>
    rename_i i
    have w : (match asLT h dx with
      | some l => (match ixP l.length i with
        | some j => (match l[j]? with
          | some d => Qd d h
          | none => False)
        | none => False)
      | none => False) := w
    cases e1 : asLT h dx with
    | none => rw [e1] at w; exact False.elim w
    | some l =>
      rw [e1] at w
      obtain ⟨a, vs, rfl, sq, rl⟩ := asLT_rep sr.sh r1 e1
      cases e2 : ixP l.length i with
      | none => simp only [e2] at w
      | some j =>
        simp only [e2] at w
        cases e3 : l[j]? with
        | none => simp only [e3] at w
        | some d =>
          simp only [e3] at w
          obtain ⟨z, e4, rz⟩ := rl.get e3
          have e5 : atI vs i = some z := by
            unfold atI
            have : ixN vs.length i = some j := by rw [← rl.length]; exact e2
            rw [this]
            exact e4
          have fin : Q z H := k d h z F H (Same.refl _) sr rz w
          rcases sq with sq | sq
          · exact ix_list value slice pins s τ0 H _ _ v u Q I rx ry ⟨a, vs, i, z, rfl, rfl, hK ▸ sq, e5, fin⟩ hs
          · exact ix_tup value slice pins s τ0 H _ _ v u Q I rx ry ⟨a, vs, i, z, rfl, rfl, hK ▸ sq, e5, fin⟩ hs
  | _ => exact False.elim w
theorem le_idx {Γ : Gam} {a b : E} {ea eb : Expr} {pos : Pos} (hK : X.K = T.K) (hb' : noSlice eb = true) (ha : PE X ea (LE T X RR (wpE Γ a))) (hb : PE X eb (LE T X RR (wpE Γ b))) : PE X (.Subscript ea eb pos) (LE T X RR (wpE Γ (.idx a b))) :=
  PE.imp (pe_ix (ix_idx (T := T) hK) ha hb (ix_ok hb')) fun τ H Q h => le_op (f := fun x y h Q => match y with
    | .int k => match asLT h x with
      | some l => match ixP l.length k with
        | some j => match l[j]? with
          | some d => Q d h
          | none => False
        | none => False
      | none => False
    | _ => False) h
theorem slP_eq (n d : Nat) (i : Int) : HT.sIx n d (some i) = slP n i := by
  show (if i < 0 then (i + (n : Int)).toNat else min i.toNat n) = _
  unfold slP
  by_cases h : 0 ≤ i
  · rw [if_pos h, if_neg (by omega)]
  · rw [if_neg h, if_pos (by omega)]
theorem cut_to (xs : List V) (i : Int) : cutV xs none (some i) = xs.take (slP xs.length i) := by
  unfold cutV
  rw [slP_eq]
  show (xs.drop 0).take (slP xs.length i - 0) = _
  simp
theorem cut_from (xs : List V) (i : Int) : cutV xs (some i) none = xs.drop (slP xs.length i) := by
  unfold cutV
  rw [slP_eq]
  show (xs.drop (slP xs.length i)).take (xs.length - slP xs.length i) = _
  rw [List.take_of_length_le]
  rw [List.length_drop]
  omega
theorem cut_of (xs : List V) (i j : Int) : cutV xs (some i) (some j) = (xs.take (slP xs.length j)).drop (slP xs.length i) := by
  unfold cutV
  rw [slP_eq, slP_eq, List.drop_take]
theorem asL_of {h : AH} {F G : Hp} {σ : Env} {τ : L2.St} {H : Hp} {d : D} {v : V} {P : List D → Prop} (hK : X.K = T.K) {lk : Lk} (sr : SR T lk F G σ h τ H) (r : Rep T F d v) (w : match asL h d with | some l => P l | none => False) : ∃ a vs l, v = .ref a ∧ SqL X.K H a vs ∧ Reps T F l vs ∧ P l := by
  cases e : asL h d with
  | none => rw [e] at w; exact False.elim w
  | some l =>
    rw [e] at w
    obtain ⟨a, vs, e1, e2, e3⟩ := asL_rep sr.sh r e
    exact ⟨a, vs, l, e1, hK ▸ e2, e3, w⟩
/-- what is cut: a list, or a tuple that is not cut whole -/
theorem cut_of2 {h : AH} {F G : Hp} {σ : Env} {τ : L2.St} {H : Hp} {d : D} {v : V} {P : List D → Prop} {Pt : List D → Prop} (hK : X.K = T.K) {lk : Lk} (w : match asL h d with | some l => P l | none => match d with | .tup l => Pt l | _ => False) (sr : SR T lk F G σ h τ H) (r : Rep T F d v) :
    ∃ a vs l, v = .ref a ∧ Reps T F l vs ∧ ((SqL X.K H a vs ∧ P l) ∨ (SqT X.K H a vs ∧ Pt l)) := by
  cases e : asL h d with
  | some l =>
    rw [e] at w
    obtain ⟨a, vs, e1, e2, e3⟩ := asL_rep sr.sh r e
    exact ⟨a, vs, l, e1, e3, .inl ⟨hK ▸ e2, w⟩⟩
  | none =>
    rw [e] at w
    cases r with
    | tup sq rl => exact ⟨_, _, _, rfl, rl, .inr ⟨hK ▸ Same.sqt sr.sh.sF sq, w⟩⟩
    | _ => exact False.elim w
theorem slP_none (n : Nat) : HT.sIx n 0 none = 0 ∧ HT.sIx n n none = n := ⟨rfl, rfl⟩
theorem le_slTo {Γ : Gam} {a b : E} {ea eb : Expr} {pos p2 : Pos} (hK : X.K = T.K) (ha : PE X ea (LE T X RR (wpE Γ a))) (hb : PE X eb (LE T X RR (wpE Γ b))) : PE X (.Subscript ea (.Slice none (some eb) none p2) pos) (LE T X RR (wpE Γ (.slTo a b))) := by
  refine PE.imp (pe_slice (SlR.or sl_list sl_tup) ha po_none (po_some hb)) fun τ H Q ⟨F, G, σ, h, Qd, sr, w, k⟩ => ⟨F, G, σ, h, _, sr, w, fun dx h1 vx F1 H1 s1 sr1 r1 w1 => ⟨F1, G, σ, h1, _, sr1, w1, fun dy h2 vy F2 H2 s2 sr2 r2 w2 => ?_⟩⟩
  cases r2 with
  | int =>
    rename_i i
    obtain ⟨c, vs, l, rfl, rl, ⟨sq, w2⟩ | ⟨sq, w2, w3⟩⟩ := cut_of2 (P := fun l => Qd (.lst (l.take (slP l.length i))) h2) (Pt := fun l => slP l.length i ≠ l.length ∧ Qd (.tup (l.take (slP l.length i))) h2) hK w2 sr2 (r1.mono s2)
    · refine ⟨i, rfl, .inl ⟨c, vs, rfl, sq, fun p hp => ?_⟩⟩
      have g := Grow.new (o := .lst (cutV vs none (some i))) sr2.sh.sF hp
      have rc : Reps T F2 (l.take (slP l.length i)) (cutV vs none (some i)) := by
        rw [cut_to, ← rl.length]
        exact rl.take _
      exact k _ h2 _ _ _ (s1.trans (s2.trans g.f)) (sr2.grow g) (.lst (SqL.of upd_same) (rc.mono g.f)) w2
    · refine ⟨i, rfl, .inr ⟨c, vs, rfl, sq, fun z => ?_, fun p hp => ?_⟩⟩
      · refine w2 ?_
        rw [slP_eq] at z
        rw [rl.length]; exact z.2
      · have g := Grow.new (o := .tup (cutV vs none (some i))) sr2.sh.sF hp
        have rc : Reps T F2 (l.take (slP l.length i)) (cutV vs none (some i)) := by
          rw [cut_to, ← rl.length]
          exact rl.take _
        exact k _ h2 _ _ _ (s1.trans (s2.trans g.f)) (sr2.grow g) (.tup (SqT.of upd_same) (rc.mono g.f)) w3
  | _ => exact False.elim w2
theorem le_slFrom {Γ : Gam} {a b : E} {ea eb : Expr} {pos p2 : Pos} (hK : X.K = T.K) (ha : PE X ea (LE T X RR (wpE Γ a))) (hb : PE X eb (LE T X RR (wpE Γ b))) : PE X (.Subscript ea (.Slice (some eb) none none p2) pos) (LE T X RR (wpE Γ (.slFrom a b))) := by
  refine PE.imp (pe_slice (SlR.or sl_list sl_tup) ha (po_some hb) po_none) fun τ H Q ⟨F, G, σ, h, Qd, sr, w, k⟩ => ⟨F, G, σ, h, _, sr, w, fun dx h1 vx F1 H1 s1 sr1 r1 w1 => ⟨F1, G, σ, h1, _, sr1, w1, fun dy h2 vy F2 H2 s2 sr2 r2 w2 => ?_⟩⟩
  cases r2 with
  | int =>
    rename_i i
    obtain ⟨c, vs, l, rfl, rl, ⟨sq, w2⟩ | ⟨sq, w2, w3⟩⟩ := cut_of2 (P := fun l => Qd (.lst (l.drop (slP l.length i))) h2) (Pt := fun l => slP l.length i ≠ 0 ∧ Qd (.tup (l.drop (slP l.length i))) h2) hK w2 sr2 (r1.mono s2)
    · refine ⟨i, rfl, .inl ⟨c, vs, rfl, sq, fun p hp => ?_⟩⟩
      have g := Grow.new (o := .lst (cutV vs (some i) none)) sr2.sh.sF hp
      have rc : Reps T F2 (l.drop (slP l.length i)) (cutV vs (some i) none) := by
        rw [cut_from, ← rl.length]
        exact rl.drop _
      exact k _ h2 _ _ _ (s1.trans (s2.trans g.f)) (sr2.grow g) (.lst (SqL.of upd_same) (rc.mono g.f)) w2
    · refine ⟨i, rfl, .inr ⟨c, vs, rfl, sq, fun z => ?_, fun p hp => ?_⟩⟩
      · refine w2 ?_
        rw [slP_eq] at z
        rw [rl.length]; exact z.1
      · have g := Grow.new (o := .tup (cutV vs (some i) none)) sr2.sh.sF hp
        have rc : Reps T F2 (l.drop (slP l.length i)) (cutV vs (some i) none) := by
          rw [cut_from, ← rl.length]
          exact rl.drop _
        exact k _ h2 _ _ _ (s1.trans (s2.trans g.f)) (sr2.grow g) (.tup (SqT.of upd_same) (rc.mono g.f)) w3
  | _ => exact False.elim w2
/-- an own list is read while it grows -/
theorem le_oidx {Γ : Gam} {i : Nat} {b : E} {x : Str} {eb : Expr} {px pos : Pos} (hK : X.K = T.K) (hN : X.N[i]? = some x) (hv : Vis X.env.scope x) (hd : (x == ("__debug__" : Str)) = false) (hcd : (x == ("__classdict__" : Str)) = false) (hb' : noSlice eb = true)
    (hb : PE X eb (LE T X RR (wpE Γ b))) : PE X (.Subscript (.Name x px) eb pos) (LE T X RR (wpE Γ (.oidx i b))) := by
  refine PE.imp (pe_ix ix_list (pe_var hN hv hd hcd) hb (ix_ok hb')) fun τ H Q ⟨F, G, σ, h, Qd, sr, w, k⟩ => ?_
  have w : (match σ.at i with
    | .own l => wpE Γ b σ h (fun y h => match y with
      | .int k => (match ixP l.length k with
        | some j => (match l[j]? with
          | some d => Qd d h
          | none => False)
        | none => False)
      | _ => False) (fun x h' => RR.R x σ h')
    | _ => False) := w
  cases e0 : σ.at i with
  | own l =>
    simp only [e0] at w
    have q0 := sr.slot i
    rw [e0] at q0
    obtain ⟨ad, vs, p1, p2, p3, p4, p5, rl⟩ := q0
    refine ⟨_, p1, F, G, σ, h, _, sr, w, fun d h1 v F1 H1 s1 sr1 r1 w1 => ?_⟩
    have q1 := sr1.slot i
    rw [e0] at q1
    obtain ⟨ad', us, p1', p2', p3', p4', p5', rl'⟩ := q1
    have : ad = ad' := by rw [p1] at p1'; exact V.ref.inj (Option.some.inj (Option.some.inj p1'))
    subst this
    cases r1 with
    | int =>
      rename_i j
      have w1 : (match ixP l.length j with
        | some j => (match l[j]? with
          | some d => Qd d h1
          | none => False)
        | none => False) := w1
      cases e2 : ixP l.length j with
      | none => simp only [e2] at w1
      | some n =>
        simp only [e2] at w1
        cases e3 : l[n]? with
        | none => simp only [e3] at w1
        | some d =>
          simp only [e3] at w1
          obtain ⟨z, e4, rz⟩ := rl'.get e3
          have e5 : atI us j = some z := by
            unfold atI
            have : ixN us.length j = some n := by rw [← rl'.length]; exact e2
            rw [this]
            exact e4
          exact ⟨ad, us, j, z, rfl, rfl, SqL.of p2', e5, k d h1 z F1 H1 s1 sr1 rz w1⟩
    | _ => exact False.elim w1
  | _ => rw [e0] at w; exact w.elim
/-- .. and its length -/
theorem le_olen {Γ : Gam} {i : Nat} {x : Str} {p px pos : Pos} (hK : X.K = T.K) (hg : Gl X "len") (hm : X.mg "len" = none) (hN : X.N[i]? = some x) (hv : Vis X.env.scope x) (hd : (x == ("__debug__" : Str)) = false) (hcd : (x == ("__classdict__" : Str)) = false) :
    PE X (.Call (.Name "len" p) [.Name x px] [] pos) (LE T X RR (wpE Γ (.olen i))) := by
  refine PE.imp (pe_callB call_len hg hm boot_len (pa_cons (pe_var (pos := px) hN hv hd hcd) pa_nil (star_cons (e := .Name x px) rfl)) (by decide) (by decide) (star_cons (e := .Name x px) rfl) rfl) fun τ H Q ⟨F, G, σ, h, Qd, sr, w, k⟩ => ?_
  have w : (match σ.at i with
    | .own l => Qd (.int l.length) h
    | _ => False) := w
  cases e0 : σ.at i with
  | own l =>
    rw [e0] at w
    have q0 := sr.slot i
    rw [e0] at q0
    obtain ⟨ad, vs, p1, p2, p3, p4, p5, rl⟩ := q0
    exact ⟨_, p1, _, _, rfl, .inl ⟨vs, SqL.of p2, rl.length⟩, k _ h _ F H (Same.refl _) sr .int w⟩
  | _ => rw [e0] at w; exact w.elim
theorem le_slOf {Γ : Gam} {a b c : E} {ea eb ec : Expr} {pos p2 : Pos} (hK : X.K = T.K) (ha : PE X ea (LE T X RR (wpE Γ a))) (hb : PE X eb (LE T X RR (wpE Γ b))) (hc : PE X ec (LE T X RR (wpE Γ c))) : PE X (.Subscript ea (.Slice (some eb) (some ec) none p2) pos) (LE T X RR (wpE Γ (.slOf a b c))) := by
  refine PE.imp (pe_slice sl_list ha (po_some hb) (po_some hc)) fun τ H Q ⟨F, G, σ, h, Qd, sr, w, k⟩ => ⟨F, G, σ, h, _, sr, w, fun dx h1 vx F1 H1 s1 sr1 r1 w1 => ⟨F1, G, σ, h1, _, sr1, w1, fun dy h2 vy F2 H2 s2 sr2 r2 w2 => ?_⟩⟩
  cases r2 with
  | int =>
    rename_i i
    refine ⟨i, rfl, F2, G, σ, h2, _, sr2, w2, fun dz h3 vz F3 H3 s3 sr3 r3 w3 => ?_⟩
    cases r3 with
    | int =>
      rename_i j
      obtain ⟨c, vs, l, rfl, sq, rl, w3⟩ := asL_of (P := fun l => Qd (.lst ((l.take (slP l.length j)).drop (slP l.length i))) h3) hK sr3 ((r1.mono s2).mono s3) w3
      refine ⟨j, rfl, c, vs, rfl, sq, fun p hp => ?_⟩
      have g := Grow.new (o := .lst (cutV vs (some i) (some j))) sr3.sh.sF hp
      have rc : Reps T F3 ((l.take (slP l.length j)).drop (slP l.length i)) (cutV vs (some i) (some j)) := by
        rw [cut_of, ← rl.length]
        exact (rl.take _).drop _
      exact k _ h3 _ _ _ (s1.trans (s2.trans (s3.trans g.f))) (sr3.grow g) (.lst (SqL.of upd_same) (rc.mono g.f)) w3
    | _ => exact False.elim w3
  | _ => exact False.elim w2
end
end FF
namespace FF
open PySem PySem.Spec PyProof.Rows L2
/-! ### what is walked -/
structure Gives (T : Tb) (F : Hp) (J : L2.It) (ds : List D) : Prop where
  go : ∀ i H, i < ds.length → Same F H → J.go i H
  yld : ∀ i H F1 x H' d, ds[i]? = some d → Same F F1 → Same F1 H → J.yld i H x H' → ∃ F', Grow F1 H F' H' ∧ Rep T F' d x
  stop : ∀ H, Same F H → J.stop ds.length H
theorem gives_list {T : Tb} {F : Hp} {a : Addr} {l : List D} {vs : List V} (s : SqL T.K F a vs) (r : Reps T F l vs) : Gives T F (Itl T.K a) l where
  go := fun i H hi sF => ⟨vs, vs[i]'(by rw [← r.length]; exact hi), sF.seq s, by simp⟩
  yld := fun i H F1 x H' d e s1 sF ⟨e1, e2⟩ => by
    subst e1
    obtain ⟨u, e3, ru⟩ := r.get e
    have := e2 vs ((s1.trans sF).seq s)
    rw [e3] at this
    cases this
    exact ⟨F1, Grow.refl sF, ru.mono s1⟩
  stop := fun H sF => ⟨vs, sF.seq s, by rw [r.length]; exact Nat.le_refl _⟩
theorem gives_tup {T : Tb} {F : Hp} {a : Addr} {l : List D} {vs : List V} (s : SqT T.K F a vs) (r : Reps T F l vs) : Gives T F (Itt T.K a) l where
  go := fun i H hi sF => ⟨vs, vs[i]'(by rw [← r.length]; exact hi), Same.sqt sF s, by simp⟩
  yld := fun i H F1 x H' d e s1 sF ⟨e1, e2⟩ => by
    subst e1
    obtain ⟨u, e3, ru⟩ := r.get e
    have := e2 vs (Same.sqt (s1.trans sF) s)
    rw [e3] at this
    cases this
    exact ⟨F1, Grow.refl sF, ru.mono s1⟩
  stop := fun H sF => ⟨vs, Same.sqt sF s, by rw [r.length]; exact Nat.le_refl _⟩
theorem gives_rng {T : Tb} {F : Hp} {lo : Int} {n : Nat} : Gives T F (Itr lo n) (rangeL lo n) where
  go := fun i H hi sF => by
    have : (rangeL lo n).length = n := by simp [rangeL]
    rw [this] at hi; exact hi
  yld := fun i H F1 x H' d e s1 sF ⟨e1, e2⟩ => by
    subst e1 e2
    have : d = .int (lo + i) := by
      unfold rangeL at e
      rw [List.getElem?_map] at e
      cases q : (List.range n)[i]? with
      | none => rw [q] at e; cases e
      | some j =>
        rw [q] at e
        have : j = i := by
          obtain ⟨h1, h2⟩ := List.getElem?_eq_some_iff.mp q
          rw [List.getElem_range] at h2; exact h2.symm
        subst this
        exact (Option.some.inj e).symm
    subst this
    exact ⟨F1, Grow.refl sF, .int⟩
  stop := fun H sF => by
    have : (rangeL lo n).length = n := by simp [rangeL]
    rw [this]; exact Nat.le_refl _
theorem gives_enum {T : Tb} {F : Hp} {a : Addr} {l : List D} {vs : List V} (s : SqL T.K F a vs) (r : Reps T F l vs) : Gives T F (Ite T.K a) (enumD l) where
  go := fun i H hi sF => by
    have e : (enumD l).length = l.length := by simp [enumD, List.length_zipWith]
    rw [e, r.length] at hi
    exact ⟨vs, vs[i], sF.seq s, by simp⟩
  yld := fun i H F1 x H' d e s1 sF ⟨p, y, e1, n, e2, e3⟩ => by
    subst e1 e2
    unfold enumD at e
    rw [List.getElem?_zipWith] at e
    cases q : l[i]? with
    | none => rw [q] at e; cases q2 : (List.range l.length)[i]? <;> (rw [q2] at e; cases e)
    | some z =>
      obtain ⟨h1, _⟩ := List.getElem?_eq_some_iff.mp q
      have q2 : (List.range l.length)[i]? = some i := by rw [List.getElem?_range h1]
      rw [q, q2] at e
      cases e
      obtain ⟨u, e4, ru⟩ := r.get q
      have := e3 vs ((s1.trans sF).seq s)
      rw [e4] at this
      cases this
      have g := Grow.new (o := .tup [.int (i : Nat), y]) sF n
      exact ⟨_, g, .tup (SqT.of upd_same) (.cons .int (.cons ((ru.mono s1).mono g.f) .nil))⟩
  stop := fun H sF => by
    have e : (enumD l).length = l.length := by simp [enumD, List.length_zipWith]
    rw [e, r.length]
    exact ⟨vs, sF.seq s, Nat.le_refl _⟩
theorem gives_zip {T : Tb} {F : Hp} {a b : Addr} {l m : List D} {vs us : List V} (s : SqL T.K F a vs) (r : Reps T F l vs) (s' : SqL T.K F b us) (r' : Reps T F m us) : Gives T F (Itz T.K a b) (zipD l m) where
  go := fun i H hi sF => by
    have e : (zipD l m).length = min l.length m.length := by simp [zipD, List.length_zipWith]
    rw [e, r.length, r'.length] at hi
    exact ⟨vs, us, vs[i]'(by omega), us[i]'(by omega), sF.seq s, sF.seq s', by simp, by simp⟩
  yld := fun i H F1 x H' d e s1 sF ⟨p, y, y', e1, n, e2, e3, e3'⟩ => by
    subst e1 e2
    unfold zipD at e
    rw [List.getElem?_zipWith] at e
    cases q : l[i]? with
    | none => rw [q] at e; cases e
    | some z =>
      cases q' : m[i]? with
      | none => rw [q, q'] at e; cases e
      | some z' =>
        rw [q, q'] at e
        cases e
        obtain ⟨u, e4, ru⟩ := r.get q
        obtain ⟨u', e4', ru'⟩ := r'.get q'
        have := e3 vs ((s1.trans sF).seq s)
        rw [e4] at this
        cases this
        have := e3' us ((s1.trans sF).seq s')
        rw [e4'] at this
        cases this
        have g := Grow.new (o := .tup [y, y']) sF n
        exact ⟨_, g, .tup (SqT.of upd_same) (.cons ((ru.mono s1).mono g.f) (.cons ((ru'.mono s1).mono g.f) .nil))⟩
  stop := fun H sF => by
    have e : (zipD l m).length = min l.length m.length := by simp [zipD, List.length_zipWith]
    rw [e, r.length, r'.length]
    refine ⟨vs, us, sF.seq s, sF.seq s', ?_⟩
    omega
def LI (T : Tb) (X : Cx) (RR : RRt) (w : Env → AH → (List D → AH → Prop) → RE → Prop) : TI := fun τ H R =>
  ∃ F G σ h Kd, SR T (RR.lk X) F G σ h τ H ∧ w σ h Kd (fun x h' => RR.R x σ h') ∧ ∀ ds h' J F' H', Same F F' → SR T (RR.lk X) F' G σ h' τ H' → Gives T F' J ds → Kd ds h' → R J H'
section
variable {X : Cx} {T : Tb} {RR : RRt} {tg : Expr}
def iSeq (K : PySem.W.Frag) (tl : TE) : TI := fun σ H R => tl σ H fun x H1 => ∃ a, x = .ref a ∧ (((∃ xs, SqL K H1 a xs) ∧ R (Itl K a) H1) ∨ ((∃ xs, SqT K H1 a xs) ∧ R (Itt K a) H1))
theorem pi_seq {l : Expr} {tl : TE} (hl : PE X l tl) : PI X tg l (iSeq X.K tl) := by
  refine ⟨fun pins s σ H R I h => ?_⟩
  refine thn (hl.run pins s σ H _ I h) fun v s1 ⟨x, H1, I1, r1, q1⟩ => ?_
  obtain ⟨a, e, q⟩ := q1
  subst e
  cases r1
  rcases q with ⟨⟨xs, hq⟩, q⟩ | ⟨⟨xs, hq⟩, q⟩
  · obtain ⟨its, rv, p, hz⟩ := I1.list hq
    refine wpAny_pyIter_list p.isList ?_
    refine ⟨s1.heap.objs.size, [s1.heap.objs.size], _, _, H1, rfl, I1.kept (t' := s1.toks) fun b o e => Heap.get?_push_of_some _ e, turn_list a _, ⟨_, Heap.get?_push_size _ rfl, rfl, rfl⟩, fun b hb => ?_, q⟩
    have e : b = s1.heap.objs.size := by simpa using hb
    subst e
    exact I1.fpOk (Nat.le_refl _) (I1.hok.fresh (Nat.le_refl _))
  · obtain ⟨its, rv, p, hz⟩ := I1.tuple hq
    refine wpAny_pyIter_tuple (show s1.heap.IsTuple a its.toArray from p) ?_
    refine ⟨s1.heap.objs.size, [s1.heap.objs.size], _, _, H1, rfl, I1.kept (t' := s1.toks) fun b o e => Heap.get?_push_of_some _ e, turn_tuple a _, ⟨_, Heap.get?_push_size _ rfl, rfl, rfl⟩, fun b hb => ?_, q⟩
    have e : b = s1.heap.objs.size := by simpa using hb
    subst e
    exact I1.fpOk (Nat.le_refl _) (I1.hok.fresh (Nat.le_refl _))
theorem PI.imp {e : Expr} {t t' : TI} (p : PI X tg e t) (h : ∀ τ H Q, t' τ H Q → t τ H Q) : PI X tg e t' := ⟨fun pins s τ H Q I q => p.run pins s τ H Q I (h τ H Q q)⟩
theorem li_seq {Γ : Gam} {a : E} {e : Expr} (hK : X.K = T.K) (ha : PE X e (LE T X RR (wpE Γ a))) : PI X tg e (LI T X RR (wpI Γ (.seq a))) := by
  refine PI.imp (pi_seq ha) fun τ H Q ⟨F, G, σ, h, Kd, sr, w, k⟩ => ⟨F, G, σ, h, _, sr, w, fun d h1 v F1 H1 s1 sr1 r1 w1 => ?_⟩
  cases r1 with
  | lst sq rl => exact ⟨_, rfl, .inl ⟨⟨_, hK ▸ sr1.sh.sF.seq sq⟩, k _ h1 _ F1 H1 s1 sr1 (hK ▸ gives_list sq rl) w1⟩⟩
  | tup sq rl => exact ⟨_, rfl, .inr ⟨⟨_, hK ▸ Same.sqt sr1.sh.sF sq⟩, k _ h1 _ F1 H1 s1 sr1 (hK ▸ gives_tup sq rl) w1⟩⟩
  | _ => exact False.elim w1
theorem star1 {e : Expr} {env : PySem.Env} (h : noStar e = true) : starEach [e] env = [(false, eval e env)] := by rw [star_cons h]; rfl
theorem li_rng1 {Γ : Gam} {a : E} {e : Expr} {p pos : Pos} (hg : Gl X "range") (hm : X.mg "range" = none) (hs : noStar e = true) (ha : PE X e (LE T X RR (wpE Γ a))) : PI X tg (.Call (.Name "range" p) [e] [] pos) (LI T X RR (wpI Γ (.rng1 a))) := by
  refine PI.imp (pi_range1A hg hm (la_cons hs ha (la_nil (Γ := Γ))) (star1 hs)) fun τ H Q ⟨F, G, σ, h, Kd, sr, w, k⟩ => ?_
  refine ⟨F, G, σ, h, (fun ds h => match ds with | [.int j] => okR j ∧ Kd (rangeL 0 j.toNat) h | _ => False), sr, ?_, fun ds h1 vs F1 H1 _ s1 sr1 r1 w1 => ?_⟩
  · have w : wpE Γ a σ h (fun x h => match x with
      | .int j => okR j ∧ Kd (rangeL 0 j.toNat) h
      | _ => False) (fun x h' => RR.R x σ h') := w
    have e : (fun (x : D) (h : AH) => wpEs Γ .nil σ h (fun xs h => (match x :: xs with | [.int j] => okR j ∧ Kd (rangeL 0 j.toNat) h | _ => False)) (fun x h' => RR.R x σ h')) = (fun x h => match x with
      | .int j => okR j ∧ Kd (rangeL 0 j.toNat) h
      | _ => False) := by
      funext x h
      cases x <;> rfl
    show wpE Γ a σ h (fun x h => wpEs Γ .nil σ h (fun xs h => (match x :: xs with | [.int j] => okR j ∧ Kd (rangeL 0 j.toNat) h | _ => False)) (fun x h' => RR.R x σ h')) (fun x h' => RR.R x σ h')
    rw [e]; exact w
  · dsimp only at w1
    split at w1
    · cases r1 with
      | cons r r' =>
        cases r'
        cases r
        exact ⟨_, rfl, k _ h1 _ F1 H1 s1 sr1 gives_rng w1.2⟩
    · exact w1.elim
theorem li_rng2 {Γ : Gam} {a b : E} {e e2 : Expr} {p pos : Pos} (hg : Gl X "range") (hm : X.mg "range" = none) (hs : noStar e = true) (hs2 : noStar e2 = true) (ha : PE X e (LE T X RR (wpE Γ a))) (hb : PE X e2 (LE T X RR (wpE Γ b))) : PI X tg (.Call (.Name "range" p) [e, e2] [] pos) (LI T X RR (wpI Γ (.rng2 a b))) := by
  refine PI.imp (pi_range2A hg hm (la_cons hs ha (la_cons hs2 hb (la_nil (Γ := Γ)))) (by rw [star_cons hs, star1 hs2]) (star1 hs2)) fun τ H Q ⟨F, G, σ, h, Kd, sr, w, k⟩ => ?_
  refine ⟨F, G, σ, h, (fun ds h => match ds with | [.int i, .int j] => okR i ∧ okR j ∧ Kd (rangeL i (j - i).toNat) h | _ => False), sr, ?_, fun ds h1 vs F1 H1 _ s1 sr1 r1 w1 => ?_⟩
  · have w : wpE Γ a σ h (fun x h => wpE Γ b σ h (fun y h => match x, y with
      | .int i, .int j => okR i ∧ okR j ∧ Kd (rangeL i (j - i).toNat) h
      | _, _ => False) (fun x h' => RR.R x σ h')) (fun x h' => RR.R x σ h') := w
    have e : ∀ x : D, (fun (y : D) (h : AH) => wpEs Γ .nil σ h (fun xs h => (match x :: y :: xs with | [.int i, .int j] => okR i ∧ okR j ∧ Kd (rangeL i (j - i).toNat) h | _ => False)) (fun x h' => RR.R x σ h')) = (fun y h => match x, y with
      | .int i, .int j => okR i ∧ okR j ∧ Kd (rangeL i (j - i).toNat) h
      | _, _ => False) := by
      intro x
      funext y h
      cases x <;> cases y <;> rfl
    show wpE Γ a σ h (fun x h => wpE Γ b σ h (fun y h => wpEs Γ .nil σ h (fun xs h => (match x :: y :: xs with | [.int i, .int j] => okR i ∧ okR j ∧ Kd (rangeL i (j - i).toNat) h | _ => False)) (fun x h' => RR.R x σ h')) (fun x h' => RR.R x σ h')) (fun x h' => RR.R x σ h')
    simp only [e]
    exact w
  · dsimp only at w1
    split at w1
    · cases r1 with
      | cons r r' =>
        cases r' with
        | cons r'' r' =>
          cases r'
          cases r
          cases r''
          exact ⟨_, _, rfl, k _ h1 _ F1 H1 s1 sr1 gives_rng w1.2.2⟩
    · exact w1.elim
theorem li_enum {Γ : Gam} {a : E} {e : Expr} {p pos tpos : Pos} {elts : List Expr} {kk : Nat} (hK : X.K = T.K) (hg : Gl X "enumerate") (hm : X.mg "enumerate" = none) (hs : noStar e = true) (ha : PE X e (LE T X RR (wpE Γ a))) : PI X (.Tuple elts kk tpos) (.Call (.Name "enumerate" p) [e] [] pos) (LI T X RR (wpI Γ (.enum a))) := by
  refine PI.imp (pi_enum hg hm (la_cons hs ha (la_nil (Γ := Γ))) (star1 hs)) fun τ H Q ⟨F, G, σ, h, Kd, sr, w, k⟩ => ?_
  refine ⟨F, G, σ, h, (fun ds h => match ds with | [.lst l] => Kd (enumD l) h | _ => False), sr, ?_, fun ds h1 vs F1 H1 _ s1 sr1 r1 w1 => ?_⟩
  · have w : wpE Γ a σ h (fun x h => match x with
      | .lst l => Kd (enumD l) h
      | _ => False) (fun x h' => RR.R x σ h') := w
    have e : (fun (x : D) (h : AH) => wpEs Γ .nil σ h (fun xs h => (match x :: xs with | [.lst l] => Kd (enumD l) h | _ => False)) (fun x h' => RR.R x σ h')) = (fun x h => match x with
      | .lst l => Kd (enumD l) h
      | _ => False) := by
      funext x h
      cases x <;> rfl
    show wpE Γ a σ h (fun x h => wpEs Γ .nil σ h (fun xs h => (match x :: xs with | [.lst l] => Kd (enumD l) h | _ => False)) (fun x h' => RR.R x σ h')) (fun x h' => RR.R x σ h')
    rw [e]; exact w
  · dsimp only at w1
    split at w1
    · cases r1 with
      | cons r r' =>
        cases r'
        cases r with
        | lst sq rl => exact ⟨_, _, rfl, hK ▸ sr1.sh.sF.seq sq, k _ h1 _ F1 H1 s1 sr1 (hK ▸ gives_enum sq rl) w1⟩
    · exact w1.elim
theorem li_zip {Γ : Gam} {a b : E} {e e2 : Expr} {p pos tpos : Pos} {elts : List Expr} {kk : Nat} (hK : X.K = T.K) (hg : Gl X "zip") (hm : X.mg "zip" = none) (hs : noStar e = true) (hs2 : noStar e2 = true) (ha : PE X e (LE T X RR (wpE Γ a))) (hb : PE X e2 (LE T X RR (wpE Γ b))) : PI X (.Tuple elts kk tpos) (.Call (.Name "zip" p) [e, e2] [] pos) (LI T X RR (wpI Γ (.zip a b))) := by
  refine PI.imp (pi_zip hg hm (la_cons hs ha (la_cons hs2 hb (la_nil (Γ := Γ)))) (star_cons hs) (star_any (es := [e2]) (by simp [hs2]))) fun τ H Q ⟨F, G, σ, h, Kd, sr, w, k⟩ => ?_
  refine ⟨F, G, σ, h, (fun ds h => match ds with | [.lst l, .lst m] => Kd (zipD l m) h | _ => False), sr, ?_, fun ds h1 vs F1 H1 _ s1 sr1 r1 w1 => ?_⟩
  · have w : wpE Γ a σ h (fun x h => wpE Γ b σ h (fun y h => match x, y with
      | .lst l, .lst m => Kd (zipD l m) h
      | _, _ => False) (fun x h' => RR.R x σ h')) (fun x h' => RR.R x σ h') := w
    have e : ∀ x : D, (fun (y : D) (h : AH) => wpEs Γ .nil σ h (fun xs h => (match x :: y :: xs with | [.lst l, .lst m] => Kd (zipD l m) h | _ => False)) (fun x h' => RR.R x σ h')) = (fun y h => match x, y with
      | .lst l, .lst m => Kd (zipD l m) h
      | _, _ => False) := by
      intro x
      funext y h
      cases x <;> cases y <;> rfl
    show wpE Γ a σ h (fun x h => wpE Γ b σ h (fun y h => wpEs Γ .nil σ h (fun xs h => (match x :: y :: xs with | [.lst l, .lst m] => Kd (zipD l m) h | _ => False)) (fun x h' => RR.R x σ h')) (fun x h' => RR.R x σ h')) (fun x h' => RR.R x σ h')
    simp only [e]
    exact w
  · dsimp only at w1
    split at w1
    · cases r1 with
      | cons r r' =>
        cases r' with
        | cons r'' r' =>
          cases r'
          cases r with
          | lst sq rl =>
            cases r'' with
            | lst sq' rl' => exact ⟨_, _, _, _, rfl, hK ▸ sr1.sh.sF.seq sq, hK ▸ sr1.sh.sF.seq sq', k _ h1 _ F1 H1 s1 sr1 (hK ▸ gives_zip sq rl sq' rl') w1⟩
    · exact w1.elim
end
/-! ### targets -/
def LG (T : Tb) (pn : List (Addr × Obj)) (vs : List Nat) (w : D → Env → (Env → Prop) → Prop) : TG := fun v τ H Q => ∃ F0 G0 F G σ h d Kd, SR T ⟨pn, F0, G0⟩ F G σ h τ H ∧ Rep T F d v ∧ w d σ Kd ∧
  ∀ σ' τ', SR T ⟨pn, F0, G0⟩ F G σ' h τ' H → τ'.length = τ.length → (∀ i, i ∉ vs → τ'[i]? = τ[i]?) → Kd σ' → Q τ' H
def LGs (T : Tb) (pn : List (Addr × Obj)) (vs : List Nat) (w : List D → Env → (Env → Prop) → Prop) : TGs := fun us τ H Q => ∃ F0 G0 F G σ h ds Kd, SR T ⟨pn, F0, G0⟩ F G σ h τ H ∧ Reps T F ds us ∧ w ds σ Kd ∧
  ∀ σ' τ', SR T ⟨pn, F0, G0⟩ F G σ' h τ' H → τ'.length = τ.length → (∀ i, i ∉ vs → τ'[i]? = τ[i]?) → Kd σ' → Q τ' H
def Tgs.len : Tgs → Nat
  | .nil => 0
  | .cons _ ts => Tgs.len ts + 1
mutual
theorem bindT_mono : ∀ (t : Tg) (d : D) (σ : Env) (K K' : Env → Prop), (∀ σ', K σ' → K' σ') → bindT t d σ K → bindT t d σ K'
  | .name _, _, _, _, _, hk, h => hk _ h
  | .tup ts, d, σ, K, K', hk, h => by
    cases d with
    | tup l => exact bindTs_mono ts l σ K K' hk h
    | lst l => exact bindTs_mono ts l σ K K' hk h
    | _ => exact h.elim
theorem bindTs_mono : ∀ (ts : Tgs) (l : List D) (σ : Env) (K K' : Env → Prop), (∀ σ', K σ' → K' σ') → bindTs ts l σ K → bindTs ts l σ K'
  | .nil, l, σ, K, K', hk, h => by
    cases l with
    | nil => exact hk _ h
    | cons _ _ => exact h.elim
  | .cons t ts, l, σ, K, K', hk, h => by
    cases l with
    | nil => exact h.elim
    | cons d r => exact bindT_mono t d σ _ _ (fun σ' h' => bindTs_mono ts r σ' K K' hk h') h
end
mutual
theorem bindT_dead : ∀ (t : Tg) (d : D) (σ : Env), ¬ bindT t d σ (fun _ => False)
  | .name _, _, _, h => h
  | .tup ts, d, σ, h => by
    cases d with
    | tup l => exact bindTs_dead ts l σ h
    | lst l => exact bindTs_dead ts l σ h
    | _ => exact h.elim
theorem bindTs_dead : ∀ (ts : Tgs) (l : List D) (σ : Env), ¬ bindTs ts l σ (fun _ => False)
  | .nil, l, σ, h => by
    cases l with
    | nil => exact h
    | cons _ _ => exact h.elim
  | .cons t ts, l, σ, h => by
    cases l with
    | nil => exact h.elim
    | cons d r => exact bindT_dead t d σ (bindT_mono t d σ _ _ (fun σ' h' => bindTs_dead ts r σ' h') h)
end
theorem bindTs_len : ∀ {l : List D} {ts : Tgs} {σ : Env} {K : Env → Prop}, bindTs ts l σ K → l.length = ts.len
  | [], .nil, _, _, _ => rfl
  | [], .cons _ _, _, _, h => h.elim
  | _ :: _, .nil, _, _, h => h.elim
  | d :: r, .cons t ts, σ, K, h => by
    refine congrArg (· + 1) ?_
    apply Classical.byContradiction
    intro hne
    exact bindT_dead t d σ (bindT_mono t d σ _ _ (fun σ' h' => hne (bindTs_len h')) h)
theorem each_none : ∀ {es : List Expr} {env : PySem.Env}, es.all noStar = true → (assignEach es env).length = es.length ∧ (assignEach es env).findIdx? (·.1) = none
  | [], _, _ => ⟨rfl, rfl⟩
  | e :: es, env, h => by
    rw [List.all_cons, Bool.and_eq_true] at h
    have e1 : assignEach (e :: es) env = (false, assign e env) :: assignEach es env := by
      have h1 := h.1
      cases e <;> first | rfl | cases h1
    obtain ⟨h1, h2⟩ := each_none (es := es) (env := env) h.2
    rw [e1]
    refine ⟨by rw [List.length_cons, h1]; rfl, ?_⟩
    rw [List.findIdx?_cons, h2]
    rfl
section
variable {X : Cx} {T : Tb} {vs : List Nat}
theorem PG.imp {e : Expr} {t t' : TG} (p : PG X e t) (h : ∀ v τ H Q, t' v τ H Q → t v τ H Q) : PG X e t' := ⟨fun pins s τ H v u Q I r q => p.run pins s τ H v u Q I r (h v τ H Q q)⟩
theorem PG.or {e : Expr} {t t' : TG} (p : PG X e t) (p' : PG X e t') : PG X e (fun v τ H Q => t v τ H Q ∨ t' v τ H Q) := ⟨fun pins s τ H v u Q I r q => q.elim (p.run pins s τ H v u Q I r) (p'.run pins s τ H v u Q I r)⟩
theorem PGs.imp {e : List Expr} {t t' : TGs} (p : PGs X e t) (h : ∀ v τ H Q, t' v τ H Q → t v τ H Q) : PGs X e t' := ⟨fun pins s τ H v u Q I r q => p.run pins s τ H v u Q I r (h v τ H Q q)⟩
theorem lg_name {i : Nat} {x : Str} {pos : Pos} (hN : X.N.Nodup) (hi : X.N[i]? = some x) (hx : Loc X.env.scope x) (hf : X.fn x = true ∨ X.env.scope.names.lookup x = some .local) (hv : i ∈ vs) : PG X (.Name x pos) (LG T X.pn vs (bindT (.name i))) :=
  PG.imp (pg_name hN hi hx hf) fun v τ H Q ⟨F0, G0, F, G, σ, h, d, Kd, sr, r, w, k⟩ => k _ _ (sr.store r) (by rw [List.length_set]) (fun j hj => by
    rw [List.getElem?_set_ne (fun e => by subst e; exact hj hv)]) w
theorem lgs_nil : PGs X [] (LGs T X.pn vs (bindTs .nil)) :=
  PGs.imp pgs_nil fun us τ H Q ⟨F0, G0, F, G, σ, h, ds, Kd, sr, r, w, k⟩ => by
    cases r with
    | nil => exact ⟨rfl, k σ τ sr rfl (fun _ _ => rfl) w⟩
    | cons _ _ => exact w.elim
theorem lgs_cons {t : Tg} {ts : Tgs} {e : Expr} {es : List Expr} (hs : noStar e = true) (h1 : PG X e (LG T X.pn vs (bindT t))) (h2 : PGs X es (LGs T X.pn vs (bindTs ts))) : PGs X (e :: es) (LGs T X.pn vs (bindTs (.cons t ts))) := by
  refine PGs.imp (pgs_cons h1 h2 (by cases e <;> first | rfl | cases hs)) fun us τ H Q ⟨F0, G0, F, G, σ, h, ds, Kd, sr, r, w, k⟩ => ?_
  cases r with
  | nil => exact w.elim
  | cons r rr =>
    exact ⟨_, _, rfl, F0, G0, F, G, σ, h, _, _, sr, r, w, fun σ1 τ1 sr1 l1 a1 w1 => ⟨F0, G0, F, G, σ1, h, _, Kd, sr1, rr, w1, fun σ2 τ2 sr2 l2 a2 w2 => k σ2 τ2 sr2 (l2.trans l1) (fun i hi => (a2 i hi).trans (a1 i hi)) w2⟩⟩
theorem lg_tup {ts : Tgs} {es : List Expr} {kk : Nat} {pos : Pos} (hK : X.K = T.K) (hc : X.calm = true) (hs : es.all noStar = true) (hl : es.length = ts.len) (h : PGs X es (LGs T X.pn vs (bindTs ts))) : PG X (.Tuple es kk pos) (LG T X.pn vs (bindT (.tup ts))) := by
  refine PG.imp (PG.or (pg_tup (n := ts.len) hc h ((each_none hs).1.trans hl) (each_none hs).2) (pg_unl (n := ts.len) hc h ((each_none hs).1.trans hl) (each_none hs).2)) fun v τ H Q ⟨F0, G0, F, G, σ, h, d, Kd, sr, r, w, k⟩ => ?_
  cases r with
  | tup sq rl => exact .inl ⟨_, _, rfl, hK ▸ Same.sqt sr.sh.sF sq, by rw [← rl.length]; exact bindTs_len w, F0, G0, F, G, σ, h, _, Kd, sr, rl, w, k⟩
  | lst sq rl => exact .inr ⟨_, _, rfl, hK ▸ sr.sh.sF.seq sq, by rw [← rl.length]; exact bindTs_len w, F0, G0, F, G, σ, h, _, Kd, sr, rl, w, k⟩
  | _ => exact w.elim
end
/-! ### comprehensions -/
theorem wipe_in {σ : L2.St} {i : Nat} (hi : i < σ.length) : ∀ {vs : List Nat}, i ∈ vs → (L2.wipe σ vs)[i]? = some none
  | [], h => by cases h
  | v :: vs, h => by
    unfold L2.wipe
    by_cases e : v = i
    · subst e
      rw [List.getElem?_set_self (by rw [L2.wipe_length]; exact hi)]
    · rw [List.getElem?_set_ne e]
      exact wipe_in hi ((List.mem_cons.mp h).resolve_left (fun z => e z.symm))
theorem wipe_ext {σ τ : L2.St} {vs : List Nat} (hl : τ.length = σ.length) (h : ∀ i, i ∉ vs → τ[i]? = (L2.wipe σ vs)[i]?) : L2.wipe τ vs = L2.wipe σ vs := by
  apply List.ext_getElem?
  intro i
  by_cases hi : i ∈ vs
  · by_cases hl' : i < σ.length
    · rw [wipe_in hl' hi, wipe_in (hl ▸ hl') hi]
    · rw [List.getElem?_eq_none (by rw [L2.wipe_length]; omega), List.getElem?_eq_none (by rw [L2.wipe_length]; omega)]
  · rw [L2.wipe_out hi]; exact h i hi
/-- the tests' reading -/
def LTs (T : Tb) (pn : List (Addr × Obj)) (w : Env → AH → (Bool → AH → Prop) → Prop) : TT := fun τ H Q => ∃ F0 G0 F G σ h Kd, SR T ⟨pn, F0, G0⟩ F G σ h τ H ∧ w σ h Kd ∧ ∀ k h' F' H', Same F F' → SR T ⟨pn, F0, G0⟩ F' G σ h' τ H' → Kd k h' → Q k H'
section
variable {X : Cx} {T : Tb} {RR : RRt} {tg : Expr}
theorem PTs.imp {e : List Expr} {t t' : TT} (p : PTs X e t) (h : ∀ τ H Q, t' τ H Q → t τ H Q) : PTs X e t' := ⟨fun pins s τ H Q I q => p.run pins s τ H Q I (h τ H Q q)⟩
theorem lts_nil {Γ : Gam} : PTs X [] (LTs T X.pn (wpT Γ .nil)) :=
  PTs.imp pts_nil fun τ H Q ⟨F0, G0, F, G, σ, h, Kd, sr, w, k⟩ => k true h F H (Same.refl _) sr w
theorem PT.ex {α : Type} {e : Expr} {t : α → TT} (h : ∀ a, PT X e (t a)) : PT X e (fun τ H Q => ∃ a, t a τ H Q) := ⟨fun pins s τ H Q I ⟨a, q⟩ => (h a).run pins s τ H Q I q⟩
theorem PE.ex {α : Type} {e : Expr} {t : α → TE} (h : ∀ a, PE X e (t a)) : PE X e (fun τ H Q => ∃ a, t a τ H Q) := ⟨fun pins s τ H Q I ⟨a, q⟩ => (h a).run pins s τ H Q I q⟩
theorem lts_one {Γ : Gam} {c : E} {e : Expr} (h : ∀ F0 G0, PT X e (LT T X ⟨F0, G0, fun _ _ _ => False⟩ (wpE Γ c))) : PTs X [e] (LTs T X.pn (wpT Γ (.cons c .nil))) :=
  PTs.imp (pts_one (PT.ex (α := Hp × Hp) fun a => h a.1 a.2)) fun τ H Q ⟨F0, G0, F, G, σ, h, Kd, sr, w, k⟩ => ⟨(F0, G0), F, G, σ, h, Kd, sr, w, k⟩
/-- what a comprehension's rule asks, from ours -/
def LE0 (T : Tb) (w : Env → AH → QE → RE → Prop) : TE := fun τ H Q =>
  ∃ a : Hp × Hp, ∃ F G σ h Qd, SR T ⟨[], a.1, a.2⟩ F G σ h τ H ∧ w σ h Qd (fun _ _ => False) ∧ ∀ d h' v F' H', Same F F' → SR T ⟨[], a.1, a.2⟩ F' G σ h' τ H' → Rep T F' d v → Qd d h' → Q v H'
abbrev cStep (Γ : Gam) (t : Tg) (c : Es) (e : E) (own : List Nat) (σ : Env) : D → AH → (Option D → AH → Prop) → Prop :=
  fun d h K => bindT t d (σ.nox.wipe own) fun σ' => wpT Γ c σ' h (fun k h => if k = true then wpE Γ e σ' h (fun y h => K (some y) h) (fun _ _ => False) else K none h)
theorem lc_go {Γ : Gam} {t : Tg} {it : FF.It} {c : Es} {e : E} {own : List Nat} {τ : L2.St} {H : Hp} {Q : VK} (h : LE T X RR (wpE Γ (.comp t it c e own)) τ H Q) :
    tLc (LI T X RR (wpI Γ it)) (LG T [] own (bindT t)) (LTs T [] (wpT Γ c)) (LE0 T (wpE Γ e)) own τ H Q := by
  obtain ⟨F, G, σ, h, Qd, sr, w, k⟩ := h
  have w : wpI Γ it σ h (fun ds h => loopC (cStep Γ t c e own σ) ds [] h fun l h => Qd (.lst l) h) (fun x h' => RR.R x σ h') := w
  refine ⟨F, G, σ, h, _, sr, w, fun ds h1 J F1 H1 s1 sr1 gv w1 L hL => ?_⟩
  obtain ⟨G0, sh0, back⟩ := sr1.call
  have nG : G0 L = none := sh0.sG.free hL
  refine ⟨fun i m H2 => ∃ F2 h2 acc av, m = ds.length - i ∧ i ≤ ds.length ∧ Same F1 F2 ∧ SH T F2 (upd G0 L (.lst av)) h2 H2 ∧ Reps T F2 acc av ∧ loopC (cStep Γ t c e own σ) (ds.drop i) acc h2 fun l h => Qd (.lst l) h, ⟨ds.length, F1, h1, [], [], by simp, Nat.zero_le _, Same.refl _, sh0.hide hL, .nil, w1⟩, ?_⟩
  rintro i m H2 ⟨F2, h2, acc, av, rfl, hi, s2, sh2, ra, w2⟩
  have hD : H2 L = some (.lst av) := sh2.sG _ _ upd_same
  by_cases hlt : i < ds.length
  · refine .inr ⟨gv.go i H2 hlt (s2.trans sh2.sF), fun H3 => ∃ F2 h2 acc av, i + 1 ≤ ds.length ∧ Same F1 F2 ∧ SH T F2 (upd G0 L (.lst av)) h2 H3 ∧ Reps T F2 acc av ∧ loopC (cStep Γ t c e own σ) (ds.drop (i + 1)) acc h2 fun l h => Qd (.lst l) h,
      fun H' ⟨F3, h3, acc3, av3, q1, q2, q3, q4, q5⟩ => ⟨ds.length - (i + 1), by omega, F3, h3, acc3, av3, rfl, q1, q2, q3, q4, q5⟩, fun x H' y => ?_⟩
    obtain ⟨F3, g3, rx⟩ := gv.yld i H2 F2 x H' ds[i] (by simp [hlt]) s2 sh2.sF y
    have sh3 := sh2.grow g3
    have e1 : ds.drop i = ds[i] :: ds.drop (i + 1) := by rw [List.drop_eq_getElem_cons hlt]
    rw [e1] at w2
    have sr3 : SR T ⟨[], F3, upd G0 L (.lst av)⟩ F3 (upd G0 L (.lst av)) (σ.nox.wipe own) h2 (L2.wipe τ own) H' := (sr1.nox (s2.trans g3.f) sh3).wipe own
    have w3 : bindT t ds[i] (σ.nox.wipe own) (fun σ' => wpT Γ c σ' h2 (fun k h => if k = true then wpE Γ e σ' h (fun y h => acc.length < SL ∧ loopC (cStep Γ t c e own σ) (ds.drop (i + 1)) (acc ++ [y]) h fun l h => Qd (.lst l) h) (fun _ _ => False) else loopC (cStep Γ t c e own σ) (ds.drop (i + 1)) acc h fun l h => Qd (.lst l) h)) := w2
    refine ⟨_, _, F3, _, _, h2, ds[i], _, sr3, rx, w3, fun σ4 τ4 sr4 l4 a4 w4 => ⟨?_, _, _, F3, _, σ4, h2, _, sr4, w4, fun b h5 F5 H5 s5 sr5 w5 => ?_⟩⟩
    · exact wipe_ext (by rw [l4, L2.wipe_length]) a4
    · cases b with
      | false =>
        exact ⟨F5, h5, acc, av, hlt, (s2.trans g3.f).trans s5, sr5.sh, (ra.mono g3.f).mono s5, w5⟩
      | true =>
        refine ⟨(_, _), F5, _, σ4, h5, _, sr5, w5, fun d h6 v F6 H6 s6 sr6 r6 w6 => ?_⟩
        have hD6 : H6 L = some (.lst av) := sr6.sh.sG _ _ upd_same
        refine ⟨av, hD6, by rw [← ra.length, ← SL_eq]; exact w6.1, F6, h6, acc ++ [d], av ++ [v], hlt, ((s2.trans g3.f).trans s5).trans s6, sr6.sh.hidw, (((ra.mono g3.f).mono s5).mono s6).append (.one r6), w6.2⟩
  · have ei : i = ds.length := by omega
    subst ei
    refine .inl ⟨gv.stop H2 (s2.trans sh2.sF), ?_⟩
    rw [List.drop_length] at w2
    obtain ⟨sh4, fk⟩ := sh2.unhide nG
    exact k _ h2 _ _ H2 ((s1.trans s2).trans fk) (back _ h2 H2 (s2.trans fk) sh4) (.lst (SqL.of upd_same) (ra.mono fk)) w2
theorem SH.cellw {F G : Hp} {h : AH} {H : Hp} {p : Addr} {vs : List V} {l : List D} (x : SH T F (upd G p (.lst vs)) h H) (n : G p = none) (r : Reps T F l vs) : h p = none ∧ SH T F G (h.put p (.lst l)) H := by
  have hp : H p = some (.lst vs) := x.sG _ _ upd_same
  have nF : F p = none := by
    rcases x.dis p with z | z
    · exact z
    · rw [upd_same] at z; cases z
  have nh : h p = none := by
    cases e : h p with
    | none => rfl
    | some c => exact absurd (x.cell p c e).2.1 (by rw [upd_same]; exact fun z => by cases z)
  refine ⟨nh, x.sF, fun b u e => x.sG _ _ (by rw [upd_ne (ne_of_none e n)]; exact e), fun b => ?_, fun a c e => ?_, x.tb.go (fun _ _ e _ _ => e) (fun _ _ e => e) fun b ps e => by rw [upd_ne (ne_of_none e n)]; exact e⟩
  · by_cases hb : b = p
    · subst hb; exact .inl nF
    · have z := x.dis b
      rw [upd_ne hb] at z; exact z
  · by_cases ha : a = p
    · subst ha
      rw [AH.put_same] at e
      cases e
      exact ⟨nF, n, vs, hp, r⟩
    · rw [AH.put_ne ha] at e
      obtain ⟨e1, e2, e3⟩ := x.cell a c e
      rw [upd_ne ha] at e2
      exact ⟨e1, e2, e3⟩
theorem lcr_go {Γ : Gam} {t : Tg} {it : FF.It} {c : Es} {e : E} {own : List Nat} {τ : L2.St} {H : Hp} {Q : VK} {F G : Hp} {σ : FF.Env} {h : AH} {Kd : Nat → List D → AH → Prop} (sr : SR T (RR.lk X) F G σ h τ H) (w : wpE Γ (.comp t it c e own) σ h (fun d h => match d with | .lst l => ∀ a, h a = none → Kd a l h | _ => False) (fun x h' => RR.R x σ h')) (k : ∀ a l h' F' H', Same F F' → SR T (RR.lk X) F' G σ (h'.put a (.lst l)) τ H' → Kd a l h' → Q (.ref a) H') :
    tLc (LI T X RR (wpI Γ it)) (LG T [] own (bindT t)) (LTs T [] (wpT Γ c)) (LE0 T (wpE Γ e)) own τ H Q := by
  have w : wpI Γ it σ h (fun ds h => loopC (cStep Γ t c e own σ) ds [] h fun l h => ∀ a, h a = none → Kd a l h) (fun x h' => RR.R x σ h') := w
  refine ⟨F, G, σ, h, _, sr, w, fun ds h1 J F1 H1 s1 sr1 gv w1 L hL => ?_⟩
  obtain ⟨G0, sh0, back⟩ := sr1.call
  have nG : G0 L = none := sh0.sG.free hL
  refine ⟨fun i m H2 => ∃ F2 h2 acc av, m = ds.length - i ∧ i ≤ ds.length ∧ Same F1 F2 ∧ SH T F2 (upd G0 L (.lst av)) h2 H2 ∧ Reps T F2 acc av ∧ loopC (cStep Γ t c e own σ) (ds.drop i) acc h2 fun l h => ∀ a, h a = none → Kd a l h, ⟨ds.length, F1, h1, [], [], by simp, Nat.zero_le _, Same.refl _, sh0.hide hL, .nil, w1⟩, ?_⟩
  rintro i m H2 ⟨F2, h2, acc, av, rfl, hi, s2, sh2, ra, w2⟩
  have hD : H2 L = some (.lst av) := sh2.sG _ _ upd_same
  by_cases hlt : i < ds.length
  · refine .inr ⟨gv.go i H2 hlt (s2.trans sh2.sF), fun H3 => ∃ F2 h2 acc av, i + 1 ≤ ds.length ∧ Same F1 F2 ∧ SH T F2 (upd G0 L (.lst av)) h2 H3 ∧ Reps T F2 acc av ∧ loopC (cStep Γ t c e own σ) (ds.drop (i + 1)) acc h2 fun l h => ∀ a, h a = none → Kd a l h,
      fun H' ⟨F3, h3, acc3, av3, q1, q2, q3, q4, q5⟩ => ⟨ds.length - (i + 1), by omega, F3, h3, acc3, av3, rfl, q1, q2, q3, q4, q5⟩, fun x H' y => ?_⟩
    obtain ⟨F3, g3, rx⟩ := gv.yld i H2 F2 x H' ds[i] (by simp [hlt]) s2 sh2.sF y
    have sh3 := sh2.grow g3
    have e1 : ds.drop i = ds[i] :: ds.drop (i + 1) := by rw [List.drop_eq_getElem_cons hlt]
    rw [e1] at w2
    have sr3 : SR T ⟨[], F3, upd G0 L (.lst av)⟩ F3 (upd G0 L (.lst av)) (σ.nox.wipe own) h2 (L2.wipe τ own) H' := (sr1.nox (s2.trans g3.f) sh3).wipe own
    have w3 : bindT t ds[i] (σ.nox.wipe own) (fun σ' => wpT Γ c σ' h2 (fun k h => if k = true then wpE Γ e σ' h (fun y h => acc.length < SL ∧ loopC (cStep Γ t c e own σ) (ds.drop (i + 1)) (acc ++ [y]) h fun l h => ∀ a, h a = none → Kd a l h) (fun _ _ => False) else loopC (cStep Γ t c e own σ) (ds.drop (i + 1)) acc h fun l h => ∀ a, h a = none → Kd a l h)) := w2
    refine ⟨_, _, F3, _, _, h2, ds[i], _, sr3, rx, w3, fun σ4 τ4 sr4 l4 a4 w4 => ⟨?_, _, _, F3, _, σ4, h2, _, sr4, w4, fun b h5 F5 H5 s5 sr5 w5 => ?_⟩⟩
    · exact wipe_ext (by rw [l4, L2.wipe_length]) a4
    · cases b with
      | false =>
        exact ⟨F5, h5, acc, av, hlt, (s2.trans g3.f).trans s5, sr5.sh, (ra.mono g3.f).mono s5, w5⟩
      | true =>
        refine ⟨(_, _), F5, _, σ4, h5, _, sr5, w5, fun d h6 v F6 H6 s6 sr6 r6 w6 => ?_⟩
        have hD6 : H6 L = some (.lst av) := sr6.sh.sG _ _ upd_same
        refine ⟨av, hD6, by rw [← ra.length, ← SL_eq]; exact w6.1, F6, h6, acc ++ [d], av ++ [v], hlt, ((s2.trans g3.f).trans s5).trans s6, sr6.sh.hidw, (((ra.mono g3.f).mono s5).mono s6).append (.one r6), w6.2⟩
  · have ei : i = ds.length := by omega
    subst ei
    refine .inl ⟨gv.stop H2 (s2.trans sh2.sF), ?_⟩
    rw [List.drop_length] at w2
    obtain ⟨nh, sh4⟩ := sh2.cellw nG ra
    exact k _ _ h2 _ H2 (s1.trans s2) (back _ _ H2 s2 sh4) (w2 _ nh)
theorem le_comp {Γ : Gam} {t : Tg} {it : FF.It} {c : Es} {e : E} {elt iter : Expr} {ifs : List Expr} {scope : Scope} {own : List (Str × Nat)} {pos : Pos} (hc : X.calm = true) (hN : X.N.Nodup) (hi : PI X tg iter (LI T X RR (wpI Γ it))) (ok : BlkOk X.N X.env.scope scope own)
    (hg : ∀ (s : Shared) (H : Hp) (C : Addr) (cl : List (Str × Addr)) (fp : List Addr), PG (X.blk s H scope (compEnvC scope cl C X.env) fp) tg (LG T [] (own.map (·.2)) (bindT t))) (ht : ∀ (s : Shared) (H : Hp) (C : Addr) (cl : List (Str × Addr)) (fp : List Addr), PTs (X.blk s H scope (compEnvC scope cl C X.env) fp) ifs (LTs T [] (wpT Γ c)))
    (he : ∀ (s : Shared) (H : Hp) (C : Addr) (cl : List (Str × Addr)) (fp : List Addr), PE (X.blk s H scope (compEnvC scope cl C X.env) fp) elt (LE0 T (wpE Γ e))) (hs : ∀ x, foldedSetIterable iter X.env x = pure x) :
    PE X (.ListComp elt [⟨tg, iter, ifs, 0⟩] scope pos) (LE T X RR (wpE Γ (.comp t it c e (own.map (·.2))))) :=
  PE.imp (pe_lc hc hN hi ok hg ht he hs) fun τ H Q h => lc_go h
end
/-! ### the rest of the expressions -/
section
variable {X : Cx} {T : Tb} {RR : RRt}
theorem le_bits {Γ : Gam} {a : E} {e : Expr} {apos pos : Pos} (hsup : noSuper e = true) (hl : (apos.endLine == pos.line) = true) (ha : PE X e (LE T X RR (wpE Γ a))) : PE X (.Call (.Attribute e "bit_length" apos) [] [] pos) (LE T X RR (wpE Γ (.bits a))) :=
  PE.imp (pe_bits ha (base_ok hsup) hl) fun τ H Q ⟨F, G, σ, h, Qd, sr, w, k⟩ => ⟨F, G, σ, h, _, sr, w, fun d h1 v F1 H1 s1 sr1 r1 w1 => by
    cases r1 with
    | int => exact ⟨_, rfl, k _ h1 _ F1 H1 s1 sr1 (by rw [bits_eq]; exact .int) w1⟩
    | _ => exact False.elim w1⟩
theorem le_slRev {Γ : Gam} {a : E} {e : Expr} {k : Nat} {p1 p2 p3 pos : Pos} (hK : X.K = T.K) (ha : PE X e (LE T X RR (wpE Γ a))) : PE X (.Subscript e (.Slice none none (some (.UnaryOp .USub (.Constant (.int 1) k p1) p2)) p3) pos) (LE T X RR (wpE Γ (.slRev a))) := by
  refine PE.imp (pe_revL ha) fun τ H Q ⟨F, G, σ, h, Qd, sr, w, kk⟩ => ⟨F, G, σ, h, _, sr, w, fun d h1 v F1 H1 s1 sr1 r1 w1 => ?_⟩
  obtain ⟨c, vs, l, rfl, sq, rl, w2⟩ := asL_of (P := fun l => Qd (.lst l.reverse) h1) hK sr1 r1 w1
  refine ⟨c, vs, rfl, sq, fun p hp => ?_⟩
  have g := Grow.new (o := .lst vs.reverse) sr1.sh.sF hp
  exact kk _ h1 _ _ _ (s1.trans g.f) (sr1.grow g) (.lst (SqL.of upd_same) (rl.reverse.mono g.f)) w2
end
end FF
namespace FF
open PySem PySem.Spec PyProof.Rows L2
/-! ### isinstance -/
def Ty.nm : Ty → String
  | .int => "int" | .bool => "bool" | .str => "str" | .tup => "tuple" | .lst => "list" | .dict => "dict" | .obj _ => ""
def D.ty : D → String
  | .non => "NoneType" | .bl _ => "bool" | .int _ => "int" | .str _ => "str" | .tup _ => "tuple" | .lst _ => "list" | .odd _ => "dict" | .map _ _ => "dict" | _ => ""
def Ty.on : Ty → Bool
  | .int => true | .bool => true | .str => true | .tup => true | .lst => true | _ => false
theorem isTy_kit {K : PySem.W.Frag} {t : Ty} {d : D} {b : Bool} (ht : t.on = true) (h : isTy t d = some b) : PySem.W.kitOne K (.type d.ty) (.type t.nm) = some b := by
  have k1 : kitB "int" "int" = some true := by decide +kernel
  have k2 : kitB "bool" "int" = some true := by decide +kernel
  have k3 : kitB "NoneType" "int" = some false := by decide +kernel
  have k4 : kitB "str" "int" = some false := by decide +kernel
  have k5 : kitB "tuple" "int" = some false := by decide +kernel
  have k6 : kitB "list" "int" = some false := by decide +kernel
  have b1 : kitB "int" "bool" = some false := by decide +kernel
  have b2 : kitB "bool" "bool" = some true := by decide +kernel
  have b3 : kitB "NoneType" "bool" = some false := by decide +kernel
  have b4 : kitB "str" "bool" = some false := by decide +kernel
  have b5 : kitB "tuple" "bool" = some false := by decide +kernel
  have b6 : kitB "list" "bool" = some false := by decide +kernel
  have t1 : kitB "int" "tuple" = some false := by decide +kernel
  have t2 : kitB "bool" "tuple" = some false := by decide +kernel
  have t3 : kitB "NoneType" "tuple" = some false := by decide +kernel
  have t4 : kitB "str" "tuple" = some false := by decide +kernel
  have t5 : kitB "tuple" "tuple" = some true := by decide +kernel
  have t6 : kitB "list" "tuple" = some false := by decide +kernel
  have l1 : kitB "int" "list" = some false := by decide +kernel
  have l2 : kitB "bool" "list" = some false := by decide +kernel
  have l3 : kitB "NoneType" "list" = some false := by decide +kernel
  have l4 : kitB "str" "list" = some false := by decide +kernel
  have l5 : kitB "tuple" "list" = some false := by decide +kernel
  have l6 : kitB "list" "list" = some true := by decide +kernel
  have d0 : kitB "dict" "int" = some false := by decide +kernel
  have d1 : kitB "dict" "bool" = some false := by decide +kernel
  have d2 : kitB "dict" "tuple" = some false := by decide +kernel
  have d3 : kitB "dict" "list" = some false := by decide +kernel
  have d4 : kitB "dict" "str" = some false := by decide +kernel
  have s1 : kitB "int" "str" = some false := by decide +kernel
  have s2 : kitB "bool" "str" = some false := by decide +kernel
  have s3 : kitB "NoneType" "str" = some false := by decide +kernel
  have s4 : kitB "str" "str" = some true := by decide +kernel
  have s5 : kitB "tuple" "str" = some false := by decide +kernel
  have s6 : kitB "list" "str" = some false := by decide +kernel
  cases t <;> cases d <;> first
    | (cases (show false = true from ht); done)
    | (have h' : (none : Option Bool) = some b := h; cases h')
    | (have h' := Option.some.inj h; subst h'; exact kit_ty (by assumption))
theorem tyX_of {T : Tb} {F H : Hp} {d : D} {v : V} {t : Ty} {b : Bool} (s : Same F H) (r : Rep T F d v) (h : isTy t d = some b) (hd : ∀ c fs, d ≠ .obj c fs) : TyX T.K H v (.type d.ty) := by
  cases r with
  | non => exact .base .non
  | bl => exact .base (.bl _)
  | int => exact .base (.int _)
  | str => exact .base (.str _)
  | tup sq rl =>
    rcases Same.sqt s sq with (z | ⟨o, z⟩) | ⟨o, _, _, h1, h2, _⟩
    · exact .base (.tup z)
    · exact .fTuple z
    · exact .kTuple h1 h2
  | lst sq rl =>
    rcases s.seq sq with (z | ⟨o, z⟩) | ⟨o, _, _, h1, h2, _⟩
    · exact .base (.lst z)
    · exact .base (.frz z)
    · exact .kList h1 h2
  | obj _ _ _ => exact absurd rfl (hd _ _)
  | dct e => exact .base (.dK (s _ _ e))
  | dcm e => exact .base (.dK (s _ _ e))
  | map e _ _ => exact .base (.dK (s _ _ e))
  | _ => cases t <;> cases h
section
variable {X : Cx} {T : Tb} {RR : RRt}
theorem le_isin {Γ : Gam} {a : E} {t : Ty} {e : Expr} {y : Str} {p p2 pos : Pos} (hK : X.K = T.K) (hg : Gl X "isinstance") (hm : X.mg "isinstance" = none) (hy : Gl X y) (hmy : X.mg y = none) (hv : bootBuiltins y = some (.type t.nm)) (hn : y ≠ "__name__") (hd : (y == ("__debug__" : Str)) = false)
    (hs : noStar e = true) (ht : t.on = true) (ha : PE X e (LE T X RR (wpE Γ a))) : PE X (.Call (.Name "isinstance" p) [e, .Name y p2] [] pos) (LE T X RR (wpE Γ (.isin a t))) := by
  have hty : PE X (.Name y p2) (tC (.ty t.nm)) := pe_bltn hy hmy hv rfl hn hd
  refine PE.imp (pe_callB call_isi hg hm boot_isinstance (pa_cons ha (pa_cons hty pa_nil (star_cons (e := .Name y p2) rfl)) (star_cons hs)) (by decide) (by decide) (star_cons hs) rfl) fun τ H Q ⟨F, G, σ, h, Qd, sr, w, k⟩ => ⟨F, G, σ, h, _, sr, w, fun d h1 v F1 H1 s1 sr1 r1 w1 => ?_⟩
  cases e1 : isTy t d with
  | none => rw [e1] at w1; exact False.elim w1
  | some b =>
    rw [e1] at w1
    have hd : ∀ c fs, d ≠ .obj c fs := fun c fs z => by subst z; cases t <;> first | (cases ht; done) | cases e1
    exact ⟨v, .ty t.nm, .type d.ty, .type t.nm, b, rfl, .ty _, hK ▸ tyX_of sr1.sh.sF r1 e1 hd, isTy_kit ht e1, k _ h1 _ F1 H1 s1 sr1 .bl w1⟩
/-- what is asked of a class for isinstance -/
structure IsoC (K : PySem.W.Frag) (C : Addr) : Prop where
  ins : C8.InsC K C
  oth : ∀ n ∈ ["NoneType", "bool", "int", "str", "tuple", "list", "dict"], PySem.W.kitOne K (.type n) (.ref C) = some false
theorem le_isinO {Γ : Gam} {a : E} {c : Nat} {e : Expr} {y : Str} {p p2 pos : Pos} (hK : X.K = T.K) (hg : Gl X "isinstance") (hm : X.mg "isinstance" = none) (hy : Gl X y) (hmy : X.mg y = some (.ref (T.cA c))) (io : IsoC T.K (T.cA c)) (hd : (y == ("__debug__" : Str)) = false)
    (hs : noStar e = true) (ha : PE X e (LE T X RR (wpE Γ a))) : PE X (.Call (.Name "isinstance" p) [e, .Name y p2] [] pos) (LE T X RR (wpE Γ (.isin a (.obj c)))) := by
  have hcl : PE X (.Name y p2) (tC (.ref (T.cA c))) := pe_glob hy hmy rfl hd
  refine PE.imp (pe_callB call_isi hg hm boot_isinstance (pa_cons ha (pa_cons hcl pa_nil (star_cons (e := .Name y p2) rfl)) (star_cons hs)) (by decide) (by decide) (star_cons hs) rfl) fun τ H Q ⟨F, G, σ, h, Qd, sr, w, k⟩ => ⟨F, G, σ, h, _, sr, w, fun d h1 v F1 H1 s1 sr1 r1 w1 => ?_⟩
  cases e1 : isTy (.obj c) d with
  | none => rw [e1] at w1; exact False.elim w1
  | some b =>
    rw [e1] at w1
    have fin := k _ h1 _ F1 H1 s1 sr1 (.bl (b := b)) w1
    by_cases hd : ∃ c' fs, d = .obj c' fs
    · obtain ⟨c', fs, rfl⟩ := hd
      have e2 : (if c' = c then some true else none) = some b := e1
      by_cases ec : c' = c
      · rw [if_pos ec] at e2
        cases e2
        subst ec
        obtain ⟨ad, dx, fvs, rfl, ea, cl, rf⟩ := asObj_rep sr1.sh r1 (show (D.obj c' fs).asObj h1 = some (c', fs) from rfl)
        exact ⟨_, .ref (T.cA c'), .ref (T.cA c'), .ref (T.cA c'), true, rfl, .own _, .base (.ins ea (hK ▸ cl) (hK ▸ io.ins.ha) (hK ▸ io.ins.hn) (hK ▸ io.ins.htk) (hK ▸ io.ins.hm)), hK ▸ io.ins.me, fin⟩
      · rw [if_neg ec] at e2; cases e2
    · have hd' : ∀ c fs, d ≠ .obj c fs := fun c fs z => hd ⟨c, fs, z⟩
      refine ⟨v, .ref (T.cA c), .type d.ty, .ref (T.cA c), b, rfl, .own _, hK ▸ tyX_of sr1.sh.sF r1 e1 hd', ?_, fin⟩
      have eb : b = false ∧ d.ty ∈ ["NoneType", "bool", "int", "str", "tuple", "list", "dict"] := by
        cases d <;> first
          | (cases (show (none : Option Bool) = some b from e1); done)
          | exact absurd rfl (hd' _ _)
          | (cases (show some false = some b from e1); exact ⟨rfl, by unfold D.ty; simp⟩)
      rw [eb.1, hK]
      exact io.oth _ eb.2
end
/-! ### statements -/
def LS (T : Tb) (X : Cx) (RR : RRt) (w : Env → AH → Post → Prop) : TS := fun D τ H => ∃ F G σ h nx rt ct, SR T (RR.lk X) F G σ h τ H ∧ w σ h ⟨nx, rt, ct, RR.R⟩ ∧
  (∀ σ' h' τ' F' H', Same F F' → SR T (RR.lk X) F' G σ' h' τ' H' → nx σ' h' → D.nx τ' H') ∧
  (∀ d h' v σ' τ' F' H', Same F F' → SR T (RR.lk X) F' G σ' h' τ' H' → Rep T F' d v → rt d h' → D.rt v H') ∧
  (∀ σ' h' τ' F' H', Same F F' → SR T (RR.lk X) F' G σ' h' τ' H' → ct σ' h' → D.ct τ' H')
section
variable {X : Cx} {T : Tb} {RR : RRt} {Γ : Gam} {pos : Pos}
theorem lss_nil : PSs X [] (LS T X RR (wpSs Γ .nil)) :=
  PSs.imp pss_nil fun D τ H ⟨F, G, σ, h, nx, rt, ct, sr, w, k, _, _⟩ => k σ h τ F H (Same.refl _) sr w
theorem lss_cons {s : S} {r : Ss} {st : Stmt} {rest : List Stmt} (h1 : PS X st (LS T X RR (wpS Γ s))) (h2 : PSs X rest (LS T X RR (wpSs Γ r))) : PSs X (st :: rest) (LS T X RR (wpSs Γ (.cons s r))) :=
  PSs.imp (pss_cons h1 h2) fun D τ H ⟨F, G, σ, h, nx, rt, ct, sr, w, k1, k2, k3⟩ => ⟨F, G, σ, h, _, rt, ct, sr, w, fun σ1 h1 τ1 F1 H1 s1 sr1 w1 =>
    ⟨F1, G, σ1, h1, nx, rt, ct, sr1, w1, fun σ' h' τ' F' H' s => k1 σ' h' τ' F' H' (s1.trans s), fun d h' v σ' τ' F' H' s => k2 d h' v σ' τ' F' H' (s1.trans s), fun σ' h' τ' F' H' s => k3 σ' h' τ' F' H' (s1.trans s)⟩, k2, k3⟩
theorem lss_frz {i : Nat} {r : Ss} {rest : List Stmt} (h2 : PSs X rest (LS T X RR (wpSs Γ r))) : PSs X rest (LS T X RR (wpSs Γ (.cons (.frz i) r))) :=
  PSs.imp h2 fun D τ H ⟨F, G, σ, h, nx, rt, ct, sr, w, k1, k2, k3⟩ => by
    have w : (match σ.at i with
      | .own l => wpSs Γ r (σ.put i (.val (.lst l))) h ⟨nx, rt, ct, RR.R⟩
      | _ => False) := w
    cases e : σ.at i with
    | own l =>
      rw [e] at w
      obtain ⟨F1, s1, sr1⟩ := sr.frz e
      exact ⟨F1, G, _, h, nx, rt, ct, sr1, w, fun σ' h' τ' F' H' s => k1 σ' h' τ' F' H' (s1.trans s), fun d h' v σ' τ' F' H' s => k2 d h' v σ' τ' F' H' (s1.trans s), fun σ' h' τ' F' H' s => k3 σ' h' τ' F' H' (s1.trans s)⟩
    | _ => rw [e] at w; exact w.elim
theorem lss_never {r : Ss} {rest : List Stmt} : PSs X rest (LS T X RR (wpSs Γ (.cons .never r))) :=
  PSs.imp pss_never fun D τ H ⟨F, G, σ, h, nx, rt, ct, sr, w, _⟩ => w
theorem ls_pass : PS X (.Pass pos) (LS T X RR (wpS Γ .pass)) :=
  PS.imp ps_pass fun D τ H ⟨F, G, σ, h, nx, rt, ct, sr, w, k, _, _⟩ => k σ h τ F H (Same.refl _) sr w
theorem ls_cont : PS X (.Continue pos) (LS T X RR (wpS Γ .cont)) :=
  PS.imp ps_continue fun D τ H ⟨F, G, σ, h, nx, rt, ct, sr, w, _, _, k⟩ => k σ h τ F H (Same.refl _) sr w
theorem ls_retN : PS X (.Return none pos) (LS T X RR (wpS Γ .retN)) :=
  PS.imp ps_retN fun D τ H ⟨F, G, σ, h, nx, rt, ct, sr, w, _, k, _⟩ => k .non h _ σ τ F H (Same.refl _) sr .non w
theorem ls_ret {a : E} {e : Expr} (ha : PE X e (LE T X RR (wpE Γ a))) : PS X (.Return (some e) pos) (LS T X RR (wpS Γ (.ret a))) :=
  PS.imp (ps_ret ha) fun D τ H ⟨F, G, σ, h, nx, rt, ct, sr, w, _, k, _⟩ => ⟨F, G, σ, h, _, sr, w, fun d h' v F' H' s sr' r q => k d h' v σ τ F' H' s sr' r q⟩
theorem ls_expr {a : E} {e : Expr} (hs : swapsWith e none pos.line X.env = pure false) (ha : PE X e (LE T X RR (wpE Γ a))) : PS X (.Expr e pos) (LS T X RR (wpS Γ (.expr a))) :=
  PS.imp (ps_expr ha hs) fun D τ H ⟨F, G, σ, h, nx, rt, ct, sr, w, k, _, _⟩ => ⟨F, G, σ, h, _, sr, w, fun d h' v F' H' s sr' r q => k σ h' τ F' H' s sr' q⟩
theorem ls_set {i : Nat} {a : E} {x : Str} {e : Expr} {p : Pos} (hN : X.N.Nodup) (hi : X.N[i]? = some x) (hx : Loc X.env.scope x) (hf : X.fn x = true ∨ X.env.scope.names.lookup x = some .local) (hs : swapsWith e (some (.Name x p)) pos.line X.env = pure false)
    (ha : PE X e (LE T X RR (wpE Γ a))) : PS X (.Assign [.Name x p] e pos) (LS T X RR (wpS Γ (.set i a))) :=
  PS.imp (ps_set hN hi hx ha hs hf) fun D τ H ⟨F, G, σ, h, nx, rt, ct, sr, w, k, _, _⟩ => ⟨F, G, σ, h, _, sr, w, fun d h' v F' H' s sr' r q => k _ h' _ F' H' s (sr'.store r) q⟩
theorem ls_set2 {i j : Nat} {a : E} {x y : Str} {ef : Expr} {el : List Expr} {ek : List Keyword} {ep p q : Pos} (hN : X.N.Nodup) (hi : X.N[i]? = some x) (hx : Loc X.env.scope x) (hf : X.fn x = true ∨ X.env.scope.names.lookup x = some .local)
    (hj : X.N[j]? = some y) (hy : Loc X.env.scope y) (hg : X.fn y = true ∨ X.env.scope.names.lookup y = some .local)
    (ha : PE X (.Call ef el ek ep) (LE T X RR (wpE Γ a))) : PS X (.Assign [.Name x p, .Name y q] (.Call ef el ek ep) pos) (LS T X RR (wpS Γ (.set2 i j a))) :=
  PS.imp (ps_asg2 ha (pg_name hN hi hx hf) (pg_name hN hj hy hg)) fun D τ H ⟨F, G, σ, h, nx, rt, ct, sr, w, k, _, _⟩ => ⟨F, G, σ, h, _, sr, w, fun d h' v F' H' s sr' r q => k _ h' _ F' H' s ((sr'.store r).store r) q⟩
theorem ls_setC {i : Nat} {t : Tg} {it : FF.It} {c : Es} {e : E} {y : Str} {tg elt iter : Expr} {ifs : List Expr} {scope : Scope} {own : List (Str × Nat)} {py lp : Pos} (hc : X.calm = true) (hN : X.N.Nodup) (hy : X.N[i]? = some y) (hyl : X.env.scope.names.lookup y = some .local)
    (hsw : swapsWith (.ListComp elt [⟨tg, iter, ifs, 0⟩] scope lp) (some (.Name y py)) pos.line X.env = pure true)
    (hi : PI X tg iter (LI T X RR (wpI Γ it))) (ok : BlkOk X.N X.env.scope scope own)
    (hg : ∀ (s : Shared) (H : Hp) (C : Addr) (cl : List (Str × Addr)) (fp : List Addr), PG (X.blk s H scope (compEnvC scope cl C X.env) fp) tg (LG T [] (own.map (·.2)) (bindT t))) (ht : ∀ (s : Shared) (H : Hp) (C : Addr) (cl : List (Str × Addr)) (fp : List Addr), PTs (X.blk s H scope (compEnvC scope cl C X.env) fp) ifs (LTs T [] (wpT Γ c)))
    (he : ∀ (s : Shared) (H : Hp) (C : Addr) (cl : List (Str × Addr)) (fp : List Addr), PE (X.blk s H scope (compEnvC scope cl C X.env) fp) elt (LE0 T (wpE Γ e))) (hs : ∀ x, foldedSetIterable iter X.env x = pure x) :
    PS X (.Assign [.Name y py] (.ListComp elt [⟨tg, iter, ifs, 0⟩] scope lp) pos) (LS T X RR (wpS Γ (.setC i (.comp t it c e (own.map (·.2)))))) :=
  PS.imp (ps_setLc hc hN hy hyl hsw hi ok hg ht he hs) fun D τ H ⟨F, G, σ, h, nx, rt, ct, sr, w, k, _, _⟩ =>
    lc_go (RR := RR) (X := X) ⟨F, G, σ, h, (fun d h => nx (σ.put i (.val d)) h), sr, w, fun d h' v F' H' s sr' r q => k _ h' _ F' H' s (sr'.store r) q⟩
theorem ls_setCR {i : Nat} {t : Tg} {it : FF.It} {c : Es} {e : E} {y : Str} {tg elt iter : Expr} {ifs : List Expr} {scope : Scope} {own : List (Str × Nat)} {py lp : Pos} (hc : X.calm = true) (hN : X.N.Nodup) (hy : X.N[i]? = some y) (hyl : X.env.scope.names.lookup y = some .local)
    (hsw : swapsWith (.ListComp elt [⟨tg, iter, ifs, 0⟩] scope lp) (some (.Name y py)) pos.line X.env = pure true)
    (hi : PI X tg iter (LI T X RR (wpI Γ it))) (ok : BlkOk X.N X.env.scope scope own)
    (hg : ∀ (s : Shared) (H : Hp) (C : Addr) (cl : List (Str × Addr)) (fp : List Addr), PG (X.blk s H scope (compEnvC scope cl C X.env) fp) tg (LG T [] (own.map (·.2)) (bindT t))) (ht : ∀ (s : Shared) (H : Hp) (C : Addr) (cl : List (Str × Addr)) (fp : List Addr), PTs (X.blk s H scope (compEnvC scope cl C X.env) fp) ifs (LTs T [] (wpT Γ c)))
    (he : ∀ (s : Shared) (H : Hp) (C : Addr) (cl : List (Str × Addr)) (fp : List Addr), PE (X.blk s H scope (compEnvC scope cl C X.env) fp) elt (LE0 T (wpE Γ e))) (hs : ∀ x, foldedSetIterable iter X.env x = pure x) :
    PS X (.Assign [.Name y py] (.ListComp elt [⟨tg, iter, ifs, 0⟩] scope lp) pos) (LS T X RR (wpS Γ (.setCR i (.comp t it c e (own.map (·.2)))))) :=
  PS.imp (ps_setLc hc hN hy hyl hsw hi ok hg ht he hs) fun D τ H ⟨F, G, σ, h, nx, rt, ct, sr, w, k, _, _⟩ =>
    lcr_go (RR := RR) (X := X) (Kd := fun a l h => nx (σ.put i (.val (.ref a))) (h.put a (.lst l))) sr w fun a l h' F' H' s sr' q => k _ _ _ F' H' s (sr'.store .ref) q
theorem lss_frzR {i : Nat} {r : Ss} {rest : List Stmt} (h2 : PSs X rest (LS T X RR (wpSs Γ r))) : PSs X rest (LS T X RR (wpSs Γ (.cons (.frzR i) r))) :=
  PSs.imp h2 fun D τ H ⟨F, G, σ, h, nx, rt, ct, sr, w, k1, k2, k3⟩ => by
    have w : (match σ.at i with
      | .val (.ref a) => (match h a with
        | some (.lst l) => wpSs Γ r (σ.put i (.val (.lst l))) (fun b => if b = a then none else h b) ⟨nx, rt, ct, RR.R⟩
        | _ => False)
      | _ => False) := w
    cases e : σ.at i with
    | val d =>
      rw [e] at w
      cases d with
      | ref a =>
        cases e1 : h a with
        | none => simp only [e1] at w
        | some c =>
          cases c with
          | obj _ _ => simp only [e1] at w
          | lst l =>
            simp only [e1] at w
            obtain ⟨v, t1, rv⟩ := sr.val e
            obtain ⟨nF, _, vs, ho, rl⟩ := sr.sh.cell a _ e1
            have fk : Same F (upd F a (.lst vs)) := fun b u e => by rw [upd_ne (ne_of_none e nF)]; exact e
            have y := sr.freeze e1 ho
            cases rv with
            | ref =>
              have z := y.store (i := i) (d := .lst l) (v := .ref a) (.lst (SqL.of upd_same) (rl.mono fk))
              have te : τ.set i (some (.ref a)) = τ := by
                obtain ⟨lt, eq⟩ := List.getElem?_eq_some_iff.mp t1
                rw [← eq, List.set_getElem_self]
              rw [te] at z
              exact ⟨_, G, _, _, nx, rt, ct, z, w, fun σ' h' τ' F' H' s => k1 σ' h' τ' F' H' (fk.trans s), fun d h' v σ' τ' F' H' s => k2 d h' v σ' τ' F' H' (fk.trans s), fun σ' h' τ' F' H' s => k3 σ' h' τ' F' H' (fk.trans s)⟩
      | _ => exact w.elim
    | _ => rw [e] at w; exact w.elim
theorem ls_ite {c : E} {a b : Ss} {ec : Expr} {ea eb : List Stmt} (hc : PT X ec (LT T X RR (wpE Γ c))) (ha : PSs X ea (LS T X RR (wpSs Γ a))) (hb : PSs X eb (LS T X RR (wpSs Γ b))) : PS X (.If ec ea eb pos) (LS T X RR (wpS Γ (.ite c a b))) := by
  refine PS.imp (ps_if hc ha hb) fun D τ H ⟨F, G, σ, h, nx, rt, ct, sr, w, k1, k2, k3⟩ => ?_
  refine ⟨F, G, σ, h, fun b0 h' => if b0 = true then wpSs Γ a σ h' ⟨nx, rt, ct, RR.R⟩ else wpSs Γ b σ h' ⟨nx, rt, ct, RR.R⟩, sr, w, fun b0 h1 F1 H1 s1 sr1 w1 => ?_⟩
  cases b0 with
  | true => exact ⟨F1, G, σ, h1, nx, rt, ct, sr1, w1, fun σ' h' τ' F' H' s => k1 σ' h' τ' F' H' (s1.trans s), fun d h' v σ' τ' F' H' s => k2 d h' v σ' τ' F' H' (s1.trans s), fun σ' h' τ' F' H' s => k3 σ' h' τ' F' H' (s1.trans s)⟩
  | false => exact ⟨F1, G, σ, h1, nx, rt, ct, sr1, w1, fun σ' h' τ' F' H' s => k1 σ' h' τ' F' H' (s1.trans s), fun d h' v σ' τ' F' H' s => k2 d h' v σ' τ' F' H' (s1.trans s), fun σ' h' τ' F' H' s => k3 σ' h' τ' F' H' (s1.trans s)⟩
theorem ls_setT {ts : Tgs} {a : E} {es : List Expr} {kk : Nat} {e : Expr} {p : Pos} {vs : List Nat} (hg : PG X (.Tuple es kk p) (LG T X.pn vs (bindT (.tup ts)))) (hs : swapsWithSole [.Tuple es kk p] e pos.line X.env = pure false) (hw : swappedStores [.Tuple es kk p] e X.env = pure none)
    (ha : PE X e (LE T X RR (wpE Γ a))) : PS X (.Assign [.Tuple es kk p] e pos) (LS T X RR (wpS Γ (.setT ts a))) :=
  PS.imp (ps_asg ha hg hs hw rfl) fun D τ H ⟨F, G, σ, h, nx, rt, ct, sr, w, k, _, _⟩ => ⟨F, G, σ, h, _, sr, w, fun d h1 v F1 H1 s1 sr1 r1 w1 => by
    have w2 : bindT (.tup ts) d σ (fun σ' => nx σ' h1) := w1
    exact ⟨_, _, F1, G, σ, h1, d, _, sr1, r1, w2, fun σ' τ' sr' _ _ q => k σ' h1 τ' F1 H1 s1 sr' q⟩⟩
theorem ls_setP {i j : Nat} {a b : E} {x y : Str} {ea eb : Expr} {px py pt : Pos} {kt k2 : Nat} {pt2 : Pos} (hc : X.calm = true) (hN : X.N.Nodup) (hi : X.N[i]? = some x) (hj : X.N[j]? = some y) (hij : i ≠ j)
    (hx : X.env.scope.names.lookup x = some .local) (hy : X.env.scope.names.lookup y = some .local) (hsa : noStar ea = true) (hsb : noStar eb = true)
    (hw : swappedStores [.Tuple [.Name x px, .Name y py] kt pt] (.Tuple [ea, eb] k2 pt2) X.env = pure (some [x, y]))
    (hs : swapsWithSole [.Tuple [.Name x px, .Name y py] kt pt] (.Tuple [ea, eb] k2 pt2) pos.line X.env = pure false)
    (ha : PE X ea (LE T X RR (wpE Γ a))) (hb : PE X eb (LE T X RR (wpE Γ b))) : PS X (.Assign [.Tuple [.Name x px, .Name y py] kt pt] (.Tuple [ea, eb] k2 pt2) pos) (LS T X RR (wpS Γ (.setP i j a b))) := by
  refine PS.imp (ps_par hc hN hi hj hij hx hy (pa_cons ha (pa_cons hb pa_nil (star_cons hsb)) (star_cons hsa)) hw hs) fun D τ H ⟨F, G, σ, h, nx, rt, ct, sr, w, k, _, _⟩ => ?_
  exact ⟨F, G, σ, h, _, sr, w, fun d1 h1 v1 F1 H1 s1 sr1 r1 w1 => ⟨F1, G, σ, h1, _, sr1, w1, fun d2 h2 v2 F2 H2 s2 sr2 r2 w2 => ⟨_, _, rfl, k _ h2 _ F2 H2 (s1.trans s2) ((sr2.store (r1.mono s2)).store r2) w2⟩⟩⟩
theorem ls_setP3 {i j l : Nat} {a b c : E} {x y z : Str} {ea eb ec : Expr} {px py pz pt : Pos} {kt k2 : Nat} {pt2 : Pos} (hc : X.calm = true) (hN : X.N.Nodup) (hi : X.N[i]? = some x) (hj : X.N[j]? = some y) (hl : X.N[l]? = some z) (hij : i ≠ j) (hil : i ≠ l) (hjl : j ≠ l)
    (hx : X.env.scope.names.lookup x = some .local) (hy : X.env.scope.names.lookup y = some .local) (hz : X.env.scope.names.lookup z = some .local) (hsa : noStar ea = true) (hsb : noStar eb = true) (hsc : noStar ec = true)
    (hw : swappedStores [.Tuple [.Name x px, .Name y py, .Name z pz] kt pt] (.Tuple [ea, eb, ec] k2 pt2) X.env = pure (some [x, y, z]))
    (hs : swapsWithSole [.Tuple [.Name x px, .Name y py, .Name z pz] kt pt] (.Tuple [ea, eb, ec] k2 pt2) pos.line X.env = pure false)
    (ha : PE X ea (LE T X RR (wpE Γ a))) (hb : PE X eb (LE T X RR (wpE Γ b))) (hc3 : PE X ec (LE T X RR (wpE Γ c))) : PS X (.Assign [.Tuple [.Name x px, .Name y py, .Name z pz] kt pt] (.Tuple [ea, eb, ec] k2 pt2) pos) (LS T X RR (wpS Γ (.setP3 i j l a b c))) := by
  refine PS.imp (ps_par3 hc hN hi hj hl hij hil hjl hx hy hz (pa_cons ha (pa_cons hb (pa_cons hc3 pa_nil (star_cons hsc)) (star_cons hsb)) (star_cons hsa)) hw hs) fun D τ H ⟨F, G, σ, h, nx, rt, ct, sr, w, k, _, _⟩ => ?_
  exact ⟨F, G, σ, h, _, sr, w, fun d1 h1 v1 F1 H1 s1 sr1 r1 w1 => ⟨F1, G, σ, h1, _, sr1, w1, fun d2 h2 v2 F2 H2 s2 sr2 r2 w2 => ⟨F2, G, σ, h2, _, sr2, w2, fun d3 h3 v3 F3 H3 s3 sr3 r3 w3 => ⟨_, _, _, rfl, k _ h3 _ F3 H3 (s1.trans (s2.trans s3)) (((sr3.store ((r1.mono s2).mono s3)).store (r2.mono s3)).store r3) w3⟩⟩⟩⟩
theorem ls_setFld {c f : Nat} {o a : E} {eo e : Expr} {x : Str} {p : Pos} (hK : X.K = T.K) (hx : T.tbl[f]? = some x) (na : NoAttr T.K (T.cA c) x) (hs : swapsWith e (some (.Attribute eo x p)) pos.line X.env = pure false)
    (ho : PE X eo (LE T X RR (wpE Γ o))) (ha : PE X e (LE T X RR (wpE Γ a))) : PS X (.Assign [.Attribute eo x p] e pos) (LS T X RR (wpS Γ (.setFld c o f a))) := by
  refine PS.imp (ps_fld ho ha hs) fun D τ H ⟨F, G, σ, h, nx, rt, ct, sr, w, k, _, _⟩ => ⟨F, G, σ, h, _, sr, w, fun d h1 v F1 H1 s1 sr1 r1 w1 => ⟨F1, G, σ, h1, _, sr1, w1, fun y h2 u F2 H2 s2 sr2 r2 w2 => ?_⟩⟩
  cases r2 with
  | ref =>
    rename_i ad
    have w2 : (match h2 ad with
      | some (.obj c' fs) => (c' = c ∧ fs.length < 1000) ∧ nx σ (h2.put ad (.obj c (FF.putF f d fs)))
      | _ => False) := w2
    cases e1 : h2 ad with
    | none => rw [e1] at w2; exact w2.elim
    | some cc =>
      rw [e1] at w2
      cases cc with
      | lst l => exact w2.elim
      | obj c' fs =>
        obtain ⟨⟨ec, hl⟩, w2⟩ := w2
        subst ec
        obtain ⟨_, _, dx, fvs, e2, cl, rf⟩ := sr2.sh.cell ad _ e1
        refine ⟨ad, T.cA c', dx, fvs, rfl, e2, hK ▸ cl, hK ▸ na, by rw [← rf.length]; exact hl, ?_⟩
        exact k _ _ _ F2 _ (s1.trans s2) (sr2.write (c := .obj c' (FF.putF f d fs)) e1 ⟨dx, _, upd_same, cl, rf.put ⟨hx, na⟩ (r1.mono s2)⟩) w2
  | _ => exact False.elim w2
theorem ls_setIdx {o i a : E} {eo ei e : Expr} {p : Pos} (ha0 : ∀ v, assign (.Subscript eo ei p) X.env v = (do
      let ov ← holding [v] (eval eo X.env)
      let iv ← holding [v, ov] (eval ei X.env)
      standAt p
      holding [v, ov, iv] (setItem ov iv v)
      release [v, ov, iv] [])) (hs : swapsWithSole [.Subscript eo ei p] e pos.line X.env = pure false) (hw : swappedStores [.Subscript eo ei p] e X.env = pure none)
    (ho : PE X eo (LE T X RR (wpE Γ o))) (hi : PE X ei (LE T X RR (wpE Γ i))) (ha : PE X e (LE T X RR (wpE Γ a))) : PS X (.Assign [.Subscript eo ei p] e pos) (LS T X RR (wpS Γ (.setIdx o i a))) := by
  refine PS.imp (ps_asg ha (pg_sub ho hi set_list ha0) hs hw rfl) fun D τ H ⟨F, G, σ, h, nx, rt, ct, sr, w, k, _, _⟩ => ⟨F, G, σ, h, _, sr, w, fun d h1 v F1 H1 s1 sr1 r1 w1 => ⟨F1, G, σ, h1, _, sr1, w1, fun x h2 u F2 H2 s2 sr2 r2 w2 => ⟨F2, G, σ, h2, _, sr2, w2, fun y h3 u3 F3 H3 s3 sr3 r3 w3 => ?_⟩⟩⟩
  cases r3 with
  | int =>
    rename_i kk
    cases r2 with
    | ref =>
      rename_i ad
      have w3 : (match h3 ad with
        | some (.lst l) => (match ixP l.length kk with
          | some j => nx σ (h3.put ad (.lst (l.set j d)))
          | none => False)
        | _ => False) := w3
      cases e1 : h3 ad with
      | none => rw [e1] at w3; exact w3.elim
      | some cc =>
        rw [e1] at w3
        cases cc with
        | obj c' fs => exact w3.elim
        | lst l =>
          cases e2 : ixP l.length kk with
          | none => simp only [e2] at w3
          | some j =>
            simp only [e2] at w3
            obtain ⟨_, _, vs, e3, rl⟩ := sr3.sh.cell ad _ e1
            refine ⟨ad, vs, kk, j, rfl, rfl, e3, by rw [← rl.length]; exact e2, ?_⟩
            exact k _ _ _ F3 _ (s1.trans (s2.trans s3)) (sr3.write (c := .lst (l.set j d)) e1 ⟨_, upd_same, Reps.set ((r1.mono s2).mono s3) j rl⟩) w3
    | _ => exact False.elim w3
  | _ => cases r2 <;> exact False.elim w3
/-! ### loops -/
theorem ls_whl {c : E} {b : Ss} {ec : Expr} {eb : List Stmt} (hp : PassesOwn (model X.prog X.w) X.A X.env X.xe) (hc : PT X ec (LT T X RR (wpE Γ c))) (hb : PSs X eb (LS T X RR (wpSs Γ b))) : PS X (.While ec eb [] pos) (LS T X RR (wpS Γ (.whl c b))) := by
  refine PS.imp (ps_while hp hc hb) fun D τ H ⟨F, G, σ, h, nx, rt, ct, sr, ⟨W, ⟨m0, w0⟩, st⟩, k1, k2, k3⟩ => ?_
  refine ⟨fun m τ H => ∃ F1 σ h, Same F F1 ∧ SR T (RR.lk X) F1 G σ h τ H ∧ W m σ h, ⟨m0, F, σ, h, Same.refl _, sr, w0⟩, ?_⟩
  rintro m τ1 H1 ⟨F1, σ1, h1, s1, sr1, w1⟩
  refine ⟨F1, G, σ1, h1, fun b0 h' => if b0 = true then wpSs Γ b σ1 h' ⟨fun σ h => ∃ m', m' < m ∧ W m' σ h, rt, fun σ h => ∃ m', m' < m ∧ W m' σ h, RR.R⟩ else nx σ1 h', sr1, st m σ1 h1 w1, fun b0 h2 F2 H2 s2 sr2 w2 => ?_⟩
  cases b0 with
  | true =>
    refine ⟨fun τ H => ∃ m', m' < m ∧ ∃ F1 σ h, Same F F1 ∧ SR T (RR.lk X) F1 G σ h τ H ∧ W m' σ h, fun σ' H' q => q, F2, G, σ1, h2, _, _, _, sr2, w2, fun σ' h' τ' F' H' s sr' ⟨m', hm, w'⟩ => ⟨m', hm, F', σ', h', s1.trans (s2.trans s), sr', w'⟩, fun d h' v σ' τ' F' H' s => k2 d h' v σ' τ' F' H' (s1.trans (s2.trans s)), fun σ' h' τ' F' H' s sr' ⟨m', hm, w'⟩ => ⟨m', hm, F', σ', h', s1.trans (s2.trans s), sr', w'⟩⟩
  | false => exact k1 σ1 h2 τ1 F2 H2 (s1.trans s2) sr2 w2
theorem ls_for {t : Tg} {it : FF.It} {b : Ss} {tg iter : Expr} {eb : List Stmt} {vs : List Nat} (hp : PassesOwn (model X.prog X.w) X.A X.env X.xe) (hc : X.calm = true) (hi : PI X tg iter (LI T X RR (wpI Γ it))) (hg : PG X tg (LG T X.pn vs (bindT t))) (hb : PSs X eb (LS T X RR (wpSs Γ b)))
    (hs : ∀ x, foldedSetIterable iter X.env x = pure x) : PS X (.For tg iter eb [] pos) (LS T X RR (wpS Γ (.for_ t it b))) := by
  refine PS.imp (ps_for hp hc hi hg hb hs) fun D τ H ⟨F, G, σ, h, nx, rt, ct, sr, w, k1, k2, k3⟩ => ⟨F, G, σ, h, _, sr, w, fun ds h1 J F1 H1 s1 sr1 gv w1 => ?_⟩
  refine ⟨fun i m τ H => ∃ F2 σ h, m = ds.length - i ∧ i ≤ ds.length ∧ Same F1 F2 ∧ SR T (RR.lk X) F2 G σ h τ H ∧ forL (fun σ h P => wpSs Γ b σ h P) (bindT t) (ds.drop i) σ h ⟨nx, rt, ct, RR.R⟩, ⟨ds.length, F1, σ, h1, by simp, Nat.zero_le _, Same.refl _, sr1, w1⟩, ?_⟩
  rintro i m τ2 H2 ⟨F2, σ2, h2, rfl, hi, s2, sr2, w2⟩
  by_cases hlt : i < ds.length
  · refine .inr ⟨gv.go i H2 hlt (s2.trans sr2.sh.sF), fun τ3 H3 => ∃ F3 σ h, i + 1 ≤ ds.length ∧ Same F1 F3 ∧ SR T (RR.lk X) F3 G σ h τ3 H3 ∧ forL (fun σ h P => wpSs Γ b σ h P) (bindT t) (ds.drop (i + 1)) σ h ⟨nx, rt, ct, RR.R⟩, fun σ' H' ⟨F3, σ3, h3, q1, q2, q3, q4⟩ => ⟨ds.length - (i + 1), by omega, F3, σ3, h3, rfl, q1, q2, q3, q4⟩, fun x H' y => ?_⟩
    obtain ⟨F3, g3, rx⟩ := gv.yld i H2 F2 x H' ds[i] (by simp [hlt]) s2 sr2.sh.sF y
    have sr3 := sr2.grow g3
    rw [List.drop_eq_getElem_cons hlt] at w2
    refine ⟨_, _, F3, G, σ2, h2, ds[i], _, sr3, rx, w2, fun σ4 τ4 sr4 _ _ w4 => ⟨F3, G, σ4, h2, _, _, _, sr4, w4, ?_, ?_, ?_⟩⟩
    · exact fun σ' h' τ' F' H' s sr' w' => ⟨F', σ', h', hlt, s2.trans (g3.f.trans s), sr', w'⟩
    · exact fun d h' v σ' τ' F' H' s => k2 d h' v σ' τ' F' H' (s1.trans (s2.trans (g3.f.trans s)))
    · exact fun σ' h' τ' F' H' s sr' w' => ⟨F', σ', h', hlt, s2.trans (g3.f.trans s), sr', w'⟩
  · have ei : i = ds.length := by omega
    subst ei
    rw [List.drop_length] at w2
    exact .inl ⟨gv.stop H2 (s2.trans sr2.sh.sF), k1 σ2 h2 τ2 F2 H2 (s1.trans s2) sr2 w2⟩
/-! ### own lists -/
def LF (T : Tb) (X : Cx) (RR : RRt) (w : Env → AH → (List D → AH → Prop) → RE → Prop) : TE := fun τ H Q =>
  ∃ F G σ h Kd, SR T (RR.lk X) F G σ h τ H ∧ w σ h Kd (fun x h' => RR.R x σ h') ∧ ∀ ds h' vs F' H' p, Same F F' → SR T (RR.lk X) F' G σ h' τ H' → Reps T F' ds vs → H' p = none → Kd ds h' → Q (.ref p) (upd H' p (.lst vs))
theorem lf_lst {n : Nat} {es : Es} {l : List Expr} (h : PA X l (LA T X RR n (wpEs Γ es))) : PE X (.List l pos) (LF T X RR (wpF Γ (.lst es))) :=
  PE.imp (pe_lst h) fun τ H Q ⟨F, G, σ, h, Kd, sr, w, k⟩ => ⟨F, G, σ, h, _, sr, w, fun ds h1 vs F1 H1 _ s1 sr1 r1 ⟨w1, w2⟩ => ⟨by rw [← r1.length, ← SL_eq]; exact w1, fun p hp => k ds h1 vs F1 H1 p s1 sr1 r1 hp w2⟩⟩
theorem lf_add {a b : E} {ea eb : Expr} (hK : X.K = T.K) (ha : PE X ea (LE T X RR (wpE Γ a))) (hb : PE X eb (LE T X RR (wpE Γ b))) : PE X (.BinOp ea .Add eb pos) (LF T X RR (wpF Γ (.bin .add a b))) := by
  refine PE.imp (pe_op op_catS ha hb) fun τ H Q ⟨F, G, σ, h, Kd, sr, w, k⟩ => ⟨F, G, σ, h, _, sr, w, fun x h1 v1 F1 H1 s1 sr1 r1 w1 => ⟨F1, G, σ, h1, _, sr1, w1, fun y h2 v2 F2 H2 s2 sr2 r2 w2 => ?_⟩⟩
  cases r1 with
  | lst q1 l1 =>
    cases r2 with
    | lst q2 l2 =>
      obtain ⟨w2, w3⟩ := w2
      refine ⟨_, _, _, _, rfl, rfl, hK ▸ sr2.sh.sF.seq (s2.seq q1), hK ▸ sr2.sh.sF.seq q2, by rw [← l1.length, ← l2.length, ← SL_eq]; exact w2, fun p hp => ?_⟩
      exact k _ h2 _ F2 H2 p (s1.trans s2) sr2 ((l1.mono s2).append l2) hp w3
    | _ => exact False.elim w2
  | _ => cases r2 <;> exact False.elim w2
theorem ls_setOwn {i : Nat} {a : E} {x : Str} {e : Expr} {p : Pos} (hN : X.N.Nodup) (hi : X.N[i]? = some x) (hx : Loc X.env.scope x) (hf : X.fn x = true ∨ X.env.scope.names.lookup x = some .local) (hs : swapsWith e (some (.Name x p)) pos.line X.env = pure false)
    (ha : PE X e (LF T X RR (wpF Γ a))) : PS X (.Assign [.Name x p] e pos) (LS T X RR (wpS Γ (.setOwn i a))) :=
  PS.imp (ps_set hN hi hx ha hs hf) fun D τ H ⟨F, G, σ, h, nx, rt, ct, sr, w, k, _, _⟩ => ⟨F, G, σ, h, _, sr, w, fun ds h' vs F' H' p s sr' r hp q => k _ h' _ F' _ s (sr'.newown hp r) q⟩
theorem ls_setPO {i j : Nat} {a : E} {es : Es} {x y : Str} {ea eb : Expr} {px py pt : Pos} {kt k2 : Nat} {pt2 : Pos} (hc : X.calm = true) (hN : X.N.Nodup) (hi : X.N[i]? = some x) (hj : X.N[j]? = some y) (hij : i ≠ j)
    (hx : X.env.scope.names.lookup x = some .local) (hy : X.env.scope.names.lookup y = some .local) (hsa : noStar ea = true) (hsb : noStar eb = true)
    (hw : swappedStores [.Tuple [.Name x px, .Name y py] kt pt] (.Tuple [ea, eb] k2 pt2) X.env = pure (some [x, y]))
    (hs : swapsWithSole [.Tuple [.Name x px, .Name y py] kt pt] (.Tuple [ea, eb] k2 pt2) pos.line X.env = pure false)
    (ha : PE X ea (LE T X RR (wpE Γ a))) (hb : PE X eb (LF T X RR (wpF Γ (.lst es)))) : PS X (.Assign [.Tuple [.Name x px, .Name y py] kt pt] (.Tuple [ea, eb] k2 pt2) pos) (LS T X RR (wpS Γ (.setPO i j a es))) := by
  refine PS.imp (ps_par hc hN hi hj hij hx hy (pa_cons ha (pa_cons hb pa_nil (star_cons hsb)) (star_cons hsa)) hw hs) fun D τ H ⟨F, G, σ, h, nx, rt, ct, sr, w, k, _, _⟩ => ?_
  exact ⟨F, G, σ, h, _, sr, w, fun d1 h1 v1 F1 H1 s1 sr1 r1 w1 => ⟨F1, G, σ, h1, _, sr1, w1, fun ds h2 vs F2 H2 p s2 sr2 r2 hp w2 => ⟨_, _, rfl, k _ h2 _ F2 _ (s1.trans s2) ((sr2.store (r1.mono s2)).newown hp r2) w2⟩⟩⟩
theorem ls_app {i : Nat} {a : E} {x : Str} {e : Expr} {px apos cpos : Pos} (hK : X.K = T.K) (hN : X.N[i]? = some x) (hv : Vis X.env.scope x) (hd : (x == ("__debug__" : Str)) = false) (hcd : (x == ("__classdict__" : Str)) = false) (hl : (apos.endLine == cpos.line) = true) (hs : noStar e = true)
    (hsup : noSuper (.Name x px) = true) (ha : PE X e (LE T X RR (wpE Γ a))) : PS X (.Expr (.Call (.Attribute (.Name x px) "append" apos) [e] [] cpos) pos) (LS T X RR (wpS Γ (.app i a))) := by
  have hA := pa_cons ha pa_nil (star_cons hs)
  have few : ((backTo cpos (starEach [e] X.env)).all (fun x => !x.1) && (backToKw cpos (keywordEach [] X.env)).all (fun x => x.1.isSome)
      && decide (([e] : List Expr).length + ([] : List Keyword).length + (if ([] : List Keyword).isEmpty then 0 else 1) < 30)) = true := by
    rw [star_all (es := [e]) (by simp [hs])]
    rfl
  refine PS.imp (ps_expr (pe_bm PySem.F.plainAttrs_list PySem.F.slot_list_append PySem.F.type_list_append mt_append (pe_var hN hv hd hcd) hA (base_ok hsup) few hl (star_cons hs) rfl) rfl) fun D τ H ⟨F, G, σ, h, nx, rt, ct, sr, w, k, _, _⟩ => ?_
  have w : (match σ.at i with
    | .own l => wpE Γ a σ h (fun d h => l.length < SL ∧ nx (σ.put i (.own (l ++ [d]))) h) (fun x h => RR.R x σ h)
    | _ => False) := w
  cases e0 : σ.at i with
  | own l =>
    rw [e0] at w
    have q0 := sr.slot i
    rw [e0] at q0
    obtain ⟨ad, vs, p1, p2, p3, p4, p5, rl⟩ := q0
    refine ⟨.ref ad, p1, .inl ⟨rfl, vs, SqL.of p2⟩, F, G, σ, h, _, sr, w, fun d h1 v F1 H1 s1 sr1 r1 w1 => ?_⟩
    have q1 := sr1.slot i
    rw [e0] at q1
    obtain ⟨ad', vs', p1', p2', p3', p4', p5', rl'⟩ := q1
    have : ad = ad' := by rw [p1] at p1'; exact V.ref.inj (Option.some.inj (Option.some.inj p1'))
    subst this
    refine ⟨ad, vs', v, rfl, rfl, p2', by rw [← rl'.length, ← SL_eq]; exact w1.1, ?_⟩
    exact k _ h1 _ F1 _ s1 (sr1.setown e0 p1 (rl'.append (.one r1))) w1.2
  | _ => rw [e0] at w; exact w.elim
/-- a list is lengthened by one of any standing -/
theorem grow_meets (p : Addr) (us : Array Value) (k : Nat) (q : Addr) (ws : Array Value) (j : Nat) (dd : Option Addr) (sl : Array (Option Value)) (h0 : ¬(!us.isEmpty && Builtin.List.listTooLong (us.size + ws.size)) = true) (h1 : us.size ≤ sizeLine) (h2 : us.size + ws.size ≤ sizeLine + 1) :
    Meets (Builtin.«list.extend» ⟨[.ref p, .ref q], []⟩) (fun _ R s => s.heap.get? p = some { cls := .type "list", data := .seq us k } ∧ s.heap.get? q = some { cls := .type "list", dict := dd, data := .seq ws j, slots := sl } ∧
      R (.ok (.ret Value.none)) { s with heap := s.heap.update p (Obj.mapSeq fun x => x ++ ws), toks := s.toks }) :=
  .of_wp fun prog w A R s h => by
    obtain ⟨hp, g, d, tk, os⟩ := s
    obtain ⟨e1, e2, e3⟩ := h
    have f1 := AutoSeq1.idx_int
    have f2 := AutoSeq1.sub_tuple_tuple
    have f3 := AutoSeq1.sub_list_list
    have f4 := AutoSeq1.sub_tuple_list
    have f5 := AutoSeq1.sub_list_tuple
    have h3 : (us ++ ws).size ≤ sizeLine + 1 := by rw [Array.size_append]; exact h2
    wp_walk using (wpAny_updateSeq e1 rfl (hz := h1) (_hz' := h3)), wpAny_loadPart' e1, wpAny_loadPart' e2
    exact ⟨_, rfl, e3⟩
theorem mt_grow : MtM X "list.extend" (fun x vs H Q => ∃ p q us ws, x = .ref p ∧ vs = [.ref q] ∧ H p = some (.lst us) ∧ SqL X.K H q ws ∧ us.length + ws.length ≤ sizeLine ∧ Q .non (upd H p (.lst (us ++ ws)))) := by
  intro pins s σ H x vs v us Q I rx rv h
  obtain ⟨p, q, xs, zs, rfl, rfl, e1, e2, hz, q0⟩ := h
  cases rx
  obtain ⟨u, rfl, ru⟩ := rv.one
  cases ru
  obtain ⟨z1, its, k, r1, l1, g1⟩ := I.lstM e1
  obtain ⟨itz, r2, p2, l2⟩ := I.list e2
  obtain ⟨⟨cls2, dd2, data2, sl2⟩, j, ho2, hc2, hdd2, hd2⟩ := p2
  simp only at hc2 hd2
  subst hc2 hd2
  have n2 := r2.length
  have hs : its.toArray.size + itz.toArray.size ≤ sizeLine := by rw [List.size_toArray, List.size_toArray]; omega
  have hl : ¬ (!its.toArray.isEmpty && Builtin.List.listTooLong (its.toArray.size + itz.toArray.size)) = true := by
    rw [notLongL hs, Bool.and_false]
    exact Bool.false_ne_true
  refine call_meets F.slot_list_extend ⟨_, g1, rfl⟩ F.entry_list_extend (F.args_list_extend_2 _ _) (grow_meets p its.toArray k q itz.toArray j dd2 sl2 hl (by rw [List.size_toArray]; omega) (by omega)) ⟨g1, ho2, ?_⟩
  refine ⟨.non, _, I.lset (its' := its ++ itz) e1 g1 (by simp) (r1.append r2) ?_, rfl, q0⟩
  rw [List.length_append]
  exact hz
theorem ls_ext {i : Nat} {a : E} {x : Str} {e : Expr} {px apos cpos : Pos} (hK : X.K = T.K) (hN : X.N[i]? = some x) (hv : Vis X.env.scope x) (hd : (x == ("__debug__" : Str)) = false) (hcd : (x == ("__classdict__" : Str)) = false) (hl : (apos.endLine == cpos.line) = true) (hs : noStar e = true)
    (hsup : noSuper (.Name x px) = true) (ha : PE X e (LE T X RR (wpE Γ a))) : PS X (.Expr (.Call (.Attribute (.Name x px) "extend" apos) [e] [] cpos) pos) (LS T X RR (wpS Γ (.ext i a))) := by
  have hA := pa_cons ha pa_nil (star_cons hs)
  have few : ((backTo cpos (starEach [e] X.env)).all (fun x => !x.1) && (backToKw cpos (keywordEach [] X.env)).all (fun x => x.1.isSome)
      && decide (([e] : List Expr).length + ([] : List Keyword).length + (if ([] : List Keyword).isEmpty then 0 else 1) < 30)) = true := by
    rw [star_all (es := [e]) (by simp [hs])]
    rfl
  refine PS.imp (ps_expr (pe_bm PySem.F.plainAttrs_list PySem.F.slot_list_extend PySem.F.type_list_extend mt_grow (pe_var hN hv hd hcd) hA (base_ok hsup) few hl (star_cons hs) rfl) rfl) fun D τ H ⟨F, G, σ, h, nx, rt, ct, sr, w, k, _, _⟩ => ?_
  have w : (match σ.at i with
    | .own l => wpE Γ a σ h (fun d h => match d with
      | .lst m => l.length + m.length ≤ SL ∧ nx (σ.put i (.own (l ++ m))) h
      | _ => False) (fun x h => RR.R x σ h)
    | _ => False) := w
  cases e0 : σ.at i with
  | own l =>
    rw [e0] at w
    have q0 := sr.slot i
    rw [e0] at q0
    obtain ⟨ad, vs, p1, p2, p3, p4, p5, rl⟩ := q0
    refine ⟨.ref ad, p1, .inl ⟨rfl, vs, SqL.of p2⟩, F, G, σ, h, _, sr, w, fun d h1 v F1 H1 s1 sr1 r1 w1 => ?_⟩
    have q1 := sr1.slot i
    rw [e0] at q1
    obtain ⟨ad', vs', p1', p2', p3', p4', p5', rl'⟩ := q1
    have : ad = ad' := by rw [p1] at p1'; exact V.ref.inj (Option.some.inj (Option.some.inj p1'))
    subst this
    cases r1 with
    | lst sq rm =>
      refine ⟨ad, _, vs', _, rfl, rfl, p2', hK ▸ sr1.sh.sF.seq sq, by rw [← rl'.length, ← rm.length, ← SL_eq]; exact w1.1, ?_⟩
      exact k _ h1 _ F1 _ s1 (sr1.setown e0 p1 (rl'.append rm)) w1.2
    | _ => exact w1.elim
  | _ => rw [e0] at w; exact w.elim
theorem ls_appR {i : Nat} {a : E} {x : Str} {e : Expr} {px apos cpos : Pos} (hK : X.K = T.K) (hN : X.N[i]? = some x) (hv : Vis X.env.scope x) (hd : (x == ("__debug__" : Str)) = false) (hcd : (x == ("__classdict__" : Str)) = false) (hl : (apos.endLine == cpos.line) = true) (hs : noStar e = true)
    (hsup : noSuper (.Name x px) = true) (ha : PE X e (LE T X RR (wpE Γ a))) : PS X (.Expr (.Call (.Attribute (.Name x px) "append" apos) [e] [] cpos) pos) (LS T X RR (wpS Γ (.appR i a))) := by
  have hA := pa_cons ha pa_nil (star_cons hs)
  have few : ((backTo cpos (starEach [e] X.env)).all (fun x => !x.1) && (backToKw cpos (keywordEach [] X.env)).all (fun x => x.1.isSome)
      && decide (([e] : List Expr).length + ([] : List Keyword).length + (if ([] : List Keyword).isEmpty then 0 else 1) < 30)) = true := by
    rw [star_all (es := [e]) (by simp [hs])]
    rfl
  refine PS.imp (ps_expr (pe_bm PySem.F.plainAttrs_list PySem.F.slot_list_append PySem.F.type_list_append mt_append (pe_var hN hv hd hcd) hA (base_ok hsup) few hl (star_cons hs) rfl) rfl) fun D τ H ⟨F, G, σ, h, nx, rt, ct, sr, w, k, _, _⟩ => ?_
  have w : (match σ.at i with
    | .val (.ref c) => (∃ l, h c = some (.lst l)) ∧ wpE Γ a σ h (fun d h => match h c with
      | some (.lst l) => l.length < SL ∧ nx σ (h.put c (.lst (l ++ [d])))
      | _ => False) (fun x h => RR.R x σ h)
    | _ => False) := w
  cases e0 : σ.at i with
  | val d0 =>
    rw [e0] at w
    cases d0 with
    | ref ad =>
      obtain ⟨v0, p1, r0⟩ := sr.val e0
      cases r0
      obtain ⟨⟨l0, c0⟩, w⟩ := w
      obtain ⟨_, _, vs0, e30, rl0⟩ := sr.sh.cell ad _ c0
      refine ⟨.ref ad, p1, .inl ⟨rfl, vs0, SqL.of e30⟩, F, G, σ, h, _, sr, w, fun d h1 v F1 H1 s1 sr1 r1 w1 => ?_⟩
      cases e1 : h1 ad with
      | none => rw [e1] at w1; exact w1.elim
      | some cc =>
        rw [e1] at w1
        cases cc with
        | obj c' fs => exact w1.elim
        | lst l =>
          obtain ⟨_, _, vs, e3, rl⟩ := sr1.sh.cell ad _ e1
          refine ⟨ad, vs, v, rfl, rfl, e3, by rw [← rl.length, ← SL_eq]; exact w1.1, ?_⟩
          exact k _ _ _ F1 _ s1 (sr1.write (c := .lst (l ++ [d])) e1 ⟨_, upd_same, rl.append (.one r1)⟩) w1.2
    | _ => exact w.elim
  | _ => rw [e0] at w; exact w.elim
theorem ls_extR {i : Nat} {a : E} {x : Str} {e : Expr} {px apos cpos : Pos} (hK : X.K = T.K) (hN : X.N[i]? = some x) (hv : Vis X.env.scope x) (hd : (x == ("__debug__" : Str)) = false) (hcd : (x == ("__classdict__" : Str)) = false) (hl : (apos.endLine == cpos.line) = true) (hs : noStar e = true)
    (hsup : noSuper (.Name x px) = true) (ha : PE X e (LE T X RR (wpE Γ a))) : PS X (.Expr (.Call (.Attribute (.Name x px) "extend" apos) [e] [] cpos) pos) (LS T X RR (wpS Γ (.extR i a))) := by
  have hA := pa_cons ha pa_nil (star_cons hs)
  have few : ((backTo cpos (starEach [e] X.env)).all (fun x => !x.1) && (backToKw cpos (keywordEach [] X.env)).all (fun x => x.1.isSome)
      && decide (([e] : List Expr).length + ([] : List Keyword).length + (if ([] : List Keyword).isEmpty then 0 else 1) < 30)) = true := by
    rw [star_all (es := [e]) (by simp [hs])]
    rfl
  refine PS.imp (ps_expr (pe_bm PySem.F.plainAttrs_list PySem.F.slot_list_extend PySem.F.type_list_extend mt_grow (pe_var hN hv hd hcd) hA (base_ok hsup) few hl (star_cons hs) rfl) rfl) fun D τ H ⟨F, G, σ, h, nx, rt, ct, sr, w, k, _, _⟩ => ?_
  have w : (match σ.at i with
    | .val (.ref c) => (∃ l, h c = some (.lst l)) ∧ wpE Γ a σ h (fun d h => match h c with
      | some (.lst l) => (match d with
        | .lst m => l.length + m.length ≤ SL ∧ nx σ (h.put c (.lst (l ++ m)))
        | _ => False)
      | _ => False) (fun x h => RR.R x σ h)
    | _ => False) := w
  cases e0 : σ.at i with
  | val d0 =>
    rw [e0] at w
    cases d0 with
    | ref ad =>
      obtain ⟨v0, p1, r0⟩ := sr.val e0
      cases r0
      obtain ⟨⟨l0, c0⟩, w⟩ := w
      obtain ⟨_, _, vs0, e30, rl0⟩ := sr.sh.cell ad _ c0
      refine ⟨.ref ad, p1, .inl ⟨rfl, vs0, SqL.of e30⟩, F, G, σ, h, _, sr, w, fun d h1 v F1 H1 s1 sr1 r1 w1 => ?_⟩
      cases e1 : h1 ad with
      | none => rw [e1] at w1; exact w1.elim
      | some cc =>
        rw [e1] at w1
        cases cc with
        | obj c' fs => exact w1.elim
        | lst l =>
          obtain ⟨_, _, vs, e3, rl⟩ := sr1.sh.cell ad _ e1
          cases r1 with
          | lst sq rm =>
            refine ⟨ad, _, vs, _, rfl, rfl, e3, hK ▸ sr1.sh.sF.seq sq, by rw [← rl.length, ← rm.length, ← SL_eq]; exact w1.1, ?_⟩
            exact k _ _ _ F1 _ s1 (sr1.write (c := .lst (l ++ _)) e1 ⟨_, upd_same, rl.append rm⟩) w1.2
          | _ => exact w1.elim
    | _ => exact w.elim
  | _ => rw [e0] at w; exact w.elim
end
end FF
namespace FF
open PySem PySem.Spec PyProof.Rows L2
/-! ### own exceptions over ArithmeticError -/
abbrev aeTail : List Value := [.type "ArithmeticError", .type "Exception", .type "BaseException", .type "object"]
def isRf : Value → Bool
  | .ref _ => true
  | _ => false
/-- own classes, then those of ArithmeticError -/
def OverA (bm : List Value) : Prop := ∃ cs : List Addr, bm = cs.map Value.ref ++ aeTail
def overA (bm : List Value) : Bool := bm.dropWhile isRf == aeTail
theorem overA_ok : ∀ {bm : List Value}, overA bm = true → OverA bm
  | [], h => absurd h (by decide)
  | v :: r, h => by
    cases v with
    | ref a =>
      obtain ⟨cs, e⟩ := overA_ok (bm := r) h
      exact ⟨a :: cs, by rw [e]; rfl⟩
    | _ => exact ⟨[], beq_iff_eq.mp h⟩
theorem OverA.pass {self : Value} {bm : List Value} (h : OverA bm) : PySem.refuseLoop self "__setattr__" bm = pure () := by
  obtain ⟨cs, rfl⟩ := h
  induction cs with
  | nil => exact PySem.F.store_ArithmeticError.passes self
  | cons c cs ih =>
    rw [List.map_cons, List.cons_append, PySem.refuseLoop_ref]
    exact ih
theorem OverA.has {bm : List Value} (h : OverA bm) (x : String) : bm.contains (.type x) = aeTail.contains (.type x) := by
  obtain ⟨cs, rfl⟩ := h
  induction cs with
  | nil => rfl
  | cons c cs ih =>
    rw [List.map_cons, List.cons_append, List.contains_cons, ih]; rfl
theorem OverA.some {bm : List Value} (h : OverA bm) : bm.isEmpty = false := by
  obtain ⟨cs, rfl⟩ := h
  cases cs <;> rfl
/-- what the written part tells of such a class -/
structure OexA (K : PySem.W.Frag) (C : Addr) : Prop where
  obj : ∃ nm q N bs bm sn sub ab col dd k0 k1 k2 k3 k5, K.lookup C = some (excClassObj nm q C N bs bm true sn sub ab col dd k0 k1 k2 k3 k5 "ArithmeticError.__new__") ∧ OverA bm
  sa : PySem.W.findIn K (.ref C) "__setattr__" = some (some (.builtin "object.__setattr__"))
  exC : PySem.W.subIn K (.ref C) (.type "BaseException") = some true
  tyC : PySem.W.typeIn K (.ref C) = some (.type "type")
  kC : PySem.W.keepIn K (.ref C) = true
def objA (K : PySem.W.Frag) (C : Addr) : Bool := match K.lookup C with
  | some ⟨.type "type", _, .cls ⟨_, _, .ref c :: bm, _, _, true, _, _, _, _, false⟩, ⟨[_, _, _, _, some (.builtin n), _]⟩⟩ => decide (c = C) && (decide (n = "ArithmeticError.__new__") && overA bm)
  | _ => false
theorem objA_ok {K : PySem.W.Frag} {C : Addr} (h : objA K C = true) : ∃ nm q N bs bm sn sub ab col dd k0 k1 k2 k3 k5, K.lookup C = some (excClassObj nm q C N bs bm true sn sub ab col dd k0 k1 k2 k3 k5 "ArithmeticError.__new__") ∧ OverA bm := by
  unfold objA at h
  split at h
  · rename_i e
    obtain ⟨h1, h⟩ := Bool.and_eq_true_iff.mp h
    obtain ⟨h2, h3⟩ := Bool.and_eq_true_iff.mp h
    have e1 := of_decide_eq_true h1
    have e2 := of_decide_eq_true h2
    subst e1 e2
    exact ⟨_, _, _, _, _, _, _, _, _, _, _, _, _, _, _, e, overA_ok h3⟩
  · cases h
def oexB (K : PySem.W.Frag) (C : Addr) : Bool := objA K C && (decide (PySem.W.findIn K (.ref C) "__setattr__" = some (some (.builtin "object.__setattr__"))) && (decide (PySem.W.subIn K (.ref C) (.type "BaseException") = some true) &&
  (decide (PySem.W.typeIn K (.ref C) = some (.type "type")) && PySem.W.keepIn K (.ref C))))
theorem oexB_ok {K : PySem.W.Frag} {C : Addr} (h : oexB K C = true) : OexA K C := by
  obtain ⟨h1, h⟩ := Bool.and_eq_true_iff.mp h
  obtain ⟨h2, h⟩ := Bool.and_eq_true_iff.mp h
  obtain ⟨h3, h⟩ := Bool.and_eq_true_iff.mp h
  obtain ⟨h4, h5⟩ := Bool.and_eq_true_iff.mp h
  exact ⟨objA_ok h1, of_decide_eq_true h2, of_decide_eq_true h3, of_decide_eq_true h4, h5⟩
section
open Builtin Builtin.ObjectAttr
variable {prog : Program} {w : World} {A : Around} {E : Value → Shared → Prop} {R : Result → Shared → Prop} {hp : Heap} {g : Array GenState} {d : Drawn} {t : Nat} {os : OsState}
/-- the first field of such an exception -/
theorem osa_first {K : PySem.W.Frag} {f : Str} {tk : Tok} {v : Value} {x C : Addr} {fv : Array Value} {cd : ClassData} (kin : K.In hp) (gx : hp.get? x = some { cls := .ref C, data := .fields fv }) (hcl : PySem.W.clsIn K C = some cd) (om : OverA cd.mro) (od : cd.hasDict = true)
    (na : PySem.W.findIn K (.ref C) f = some none)
    (go : ∀ h2 tk2 dx, (∀ b o, b ≠ x → hp.get? b = some o → h2.get? b = some o) → hp.objs.size ≤ dx → dx ≠ x → h2.get? x = some { cls := .ref C, dict := some dx, data := .fields fv } → h2.Ns1 dx (fun y => if y = f then some v else none) → R (.ok (.ret .none)) ⟨h2, g, d, tk2, os⟩) :
    codeAny (model prog w) A (.call (.builtin "object.__setattr__") ⟨[.ref x, .str f tk, v], []⟩) R ⟨hp, g, d, t, os⟩ := by
  have inst : PySem.W.InstAt hp x { cls := .ref C, data := .fields fv } C none := ⟨gx, rfl, rfl, trivial⟩
  have st := PySem.F.store_object
  have e0 := om.some
  have e1 : cd.mro.contains (.type "object") = true := (om.has "object").trans (by decide +kernel)
  have xs : x ≠ hp.objs.size := Nat.ne_of_lt (Heap.lt_size gx)
  have isO : PySem.W.Looks (model prog w) hp (isInstance (.ref x) (.type "object")) true := inst.type.andThen (PySem.W.looks_mroIn kin (by unfold PySem.W.mroIn; rw [hcl, Option.bind_some, if_neg (by rw [e0]; decide), e1]))
  refine codeAny_call_builtin st.slot.plain st.entry (@PySem.W.check_slot (model prog w) _ _ ⟨hp, g, d, t, os⟩ "object.__setattr__" "object" "__setattr__" (.ref x) [.str f tk, v] [] _ st.kind st.split isO (st.args (.ref x) (.str f tk) v) ?_)
  have lm : PySem.W.Looks (model prog w) hp (mroOf (.ref C)) cd.mro := (PySem.W.looks_clsIn kin hcl).andThen .now
  have lt : PySem.W.Looks (model prog w) hp (storeTaker? none) none := .now
  have lc : PySem.W.Looks (model prog w) hp (classData C) cd := PySem.W.looks_clsIn kin hcl
  rw [PySem.W.osa_eq, refuse_eq]
  refine wpAny_bind (wpAny_bind (inst.type.at (wpAny_bind (lm.at ?_))))
  rw [om.pass]
  refine wpAny_pure (wpAny_bind (inst.type.at (wpAny_bind ((PySem.W.looks_findIn kin na).at (wpAny_bind (lt.at ?_))))))
  show wpAny _ _ (storeInOwnDict (.ref x) (.ref C) (.str f tk) f v false) _ _ _
  obtain ⟨c1, c2, c3, c4, c5, c6, c7, c8, c9, c10, c11⟩ := cd
  dsimp only at od
  subst od
  unfold storeInOwnDict ownDictForStores
  repeat (first | with_reducible refine PySem.HandSPX.store_in_new ?_ ?_ | with_reducible refine wpAny_loadPart_at gx ?_ | with_reducible refine lc.at ?_ | wp_step)
  · exact ⟨_, #[], _, (Heap.get?_update_ne _ _ _ _ xs.symm).trans (Heap.get?_push_at rfl rfl), rfl, fun e he => absurd he (by simp), fun _ => rfl⟩
  · intro h2 tk2 hn hs
    have gx2 : (hp.push { cls := .type "dict", data := .dict #[] }).get? x = some { cls := .ref C, data := .fields fv } := Heap.get?_push_of_some _ gx
    refine go h2 tk2 hp.objs.size (fun b o hb ho => ?_) (Nat.le_refl _) xs.symm ?_ hn
    · exact (hs.2 b (Nat.ne_of_lt (Heap.lt_size ho))).trans ((Heap.get?_update_ne _ _ _ _ hb).trans (Heap.get?_push_of_some _ ho))
    · exact (hs.2 x xs).trans (Heap.get?_update_self _ gx2 rfl)
end
section
variable {X : Cx} {pins : List (Addr × Obj)} {σ : L2.St} {H : Hp} {s : Shared} {x C : Addr} {f : Str} {y : V} {u : Value} {Q : Unit → Shared → Prop} {E : Value → Shared → Prop} {A : Around}
theorem OexA.cls {K : PySem.W.Frag} {C : Addr} (T : OexA K C) : ∃ cd, PySem.W.clsIn K C = some cd ∧ OverA cd.mro ∧ cd.hasDict = true := by
  obtain ⟨nm, q, N, bs, bm, sn, sub, ab, col, dd, k0, k1, k2, k3, k5, lk, cs, e⟩ := T.obj
  refine ⟨{ name := nm, bases := bs, mro := .ref C :: bm, ns := N, qualname := q, hasDict := true, slotNames := sn, subclasses := sub, abstract := ab, collection := col, hasDel := false }, ?_, ⟨C :: cs, by rw [e]; rfl⟩, rfl⟩
  unfold PySem.W.clsIn
  rw [lk]
/-- self.f = y in the making of such an exception -/
theorem ost_first (T : OexA X.K C) (I : Inv X pins σ H s) (hx : H x = some (exo x C none)) (na : PySem.W.findIn X.K (.ref C) f = some none) (ry : RelV y u)
    (go : ∀ dx s2, H dx = none → dx ≠ x → Inv X pins σ (upd (upd H dx (exd dx [(f, y)])) x (exo x C (some dx))) s2 → Q () s2) : wpAny (model X.prog X.w) A (setAttr (.ref x) f u) Q E s := by
  obtain ⟨cd, hcl, om, od⟩ := T.cls
  obtain ⟨t1, gx⟩ := exo_at I.hok hx
  obtain ⟨hp, gs, dr, tk, os⟩ := s
  refine PySem.W.set_plain I.kIn (ox := { cls := .ref C, dict := none, data := .fields #[.ref t1, .none, .none, .none, .bool false, .none] }) (od := none) ⟨gx, rfl, rfl, trivial⟩ T.sa ?_
  refine osa_first I.kIn gx hcl om od na fun h2 tk2 dx kp ge ne gx2 ns => ?_
  have fd : H dx = none := I.hok.fresh ge
  have old : ∀ {b : Addr} {o : Obj}, hp.get? b = some o → b ≠ dx := fun {b o} z => Nat.ne_of_lt (Nat.lt_of_lt_of_le (Heap.lt_size z) ge)
  have nox : ∀ {b : Addr}, H b = none → b ≠ x := fun {b} n z => by
    rw [z, hx] at n
    cases n
  have un : Un X.fs [] H (upd (upd H dx (exd dx [(f, y)])) x (exo x C (some dx))) hp h2 := by
    refine { keep := ?_, slot := ?_, free := ?_, there := ?_, tups := ?_, frzs := ?_, tbls := ?_ }
    · exact fun b o z n _ _ => kp b o (nox n) z
    · exact fun b o z n _ _ => ⟨o.slots, kp b o (nox n) z⟩
    · exact fun b o z n _ => by rw [upd_ne (nox n), upd_ne (old z)]; exact n
    · intro b o z _
      by_cases hb : b = x
      · exact ⟨_, by rw [hb]; exact gx2⟩
      · exact ⟨o, kp b o hb z⟩
    · exact fun b us z => by rw [upd_ne (at_ne hx z exo_tup), upd_ne (ne_of_none z fd)]; exact z
    · exact fun b o v z => by rw [upd_ne (at_ne hx z exo_frz), upd_ne (ne_of_none z fd)]; exact z
    · exact fun b us z => ⟨#[], by rw [upd_ne (at_ne hx z exo_tbl), upd_ne (ne_of_none z fd), z]; simp⟩
  refine go dx _ fd ne (I.un (t' := tk2) un fun b o z => ?_)
  by_cases hb : b = x
  · subst hb
    rw [upd_same] at z
    cases z
    exact exo_ok gx2
  rw [upd_ne hb] at z
  by_cases hd : b = dx
  · subst hd
    rw [upd_same] at z
    cases z
    exact exd_ok ns (relO_put (fs := []) ry fun _ => True.intro)
  rw [upd_ne hd] at z
  refine (I.hok b o z).stay (fun c v hc w => kp c v ?_ w) (fun c hc => ?_) fun c us hc => ?_
  · rcases hc with hc | hc
    · rw [hc]; exact hb
    · exact at_ne hx hc exo_own
  · rw [upd_ne (at_ne hx hc exo_own), upd_ne (ne_of_none hc fd)]; exact hc
  · rw [upd_ne (at_ne hx hc exo_tup), upd_ne (ne_of_none hc fd)]; exact hc
/-- the base's __init__ on it -/
theorem base_ok2 {us : List Value} {Q : Value → Shared → Prop} (T : OexA X.K C) (I : Inv X pins σ H s) (hx : H x = some (exo x C none)) (hl : us.length ≤ sizeLine) (go : ∀ s2, Inv X pins σ H s2 → Q .none s2) :
    wpAny (model X.prog X.w) A (call (.builtin "ArithmeticError.__init__") (.ref x :: us)) Q E s := by
  obtain ⟨nm, q, N, bs, bm, sn, sub, ab, col, dd, k0, k1, k2, k3, k5, lk, om⟩ := T.obj
  obtain ⟨t1, gx⟩ := exo_at I.hok hx
  obtain ⟨hp, gs, dr, tk, os⟩ := s
  refine wpAny_call (PySem.HandSPX.init_base PySem.F.excBase_ArithmeticError (fun z => om.has z) (I.kIn _ _ lk) gx hl fun h2 t2 kp gx2 => ?_)
  have J := I.write (t' := tk) (x := x) (e := x) (o := exo x C none) (by rw [hx]; exact True.intro) (.inl rfl) kp ⟨_, gx2⟩ (exo_ok gx2)
  have same : upd H x (exo x C none) = H := by
    funext b
    by_cases hb : b = x
    · rw [hb, upd_same, hx]
    · rw [upd_ne hb]
  rw [same] at J
  exact go _ J
end
/-- what the written part tells of the errors' base class -/
structure BaseE (K : PySem.W.Frag) (B : Addr) : Prop where
  ga : PySem.W.specialIn K (.ref B) "__getattribute__" = some (some (.builtin "type.__getattribute__"))
  rd : PySem.W.readsIn K B (.type "type") = true
  at_ : PySem.W.findCls K (.ref B) (.type "type") "__init__" = some (.val (.builtin "ArithmeticError.__init__"))
/-- B.__init__(self, ..) -/
def tAeI (K : PySem.W.Frag) (ta : TA) : TE := fun σ H Q => ta σ H fun vs H1 => ∃ (x C : Addr) (ws : List V), vs = .ref x :: ws ∧ ws.length ≤ 1000 ∧ OexA K C ∧ H1 x = some (exo x C none) ∧ Q .non H1
/-- self.f = e -/
def tAst (K : PySem.W.Frag) (f : Str) (to te : TE) : TS := fun D σ H => te σ H fun y H1 => to σ H1 fun v H2 => ∃ x C : Addr, v = .ref x ∧ OexA K C ∧ PySem.W.findIn K (.ref C) f = some none ∧ H2 x = some (exo x C none) ∧
  ∀ dx, H2 dx = none → dx ≠ x → D.nx σ (upd (upd H2 dx (exd dx [(f, y)])) x (exo x C (some dx)))
section
variable {X : Cx} {o e : Expr} {es : List Expr} {to te : TE} {ta : TA} {f b : Str} {B : Addr} {p p2 p3 pos : Pos}
theorem pe_aeinit {pl : Sem Bool} (hg : Gl X b) (hm : X.mg b = some (.ref B)) (T : BaseE X.K B) (ha : PA X (e :: es) ta) (hd : (b == ("__debug__" : Str)) = false)
    (hc : eval (.Call (.Attribute (.Name b p2) "__init__" p3) (e :: es) [] pos) X.env = (do
      let v ← eval (.Name b p2) X.env
      standAt p3.atName
      let (fn, first) ← holding [v] (getMethod v "__init__" pl)
      callWith pos fn first (backTo pos (starEach (e :: es) X.env)) (backToKw pos (keywordEach [] X.env))))
    (he : starEach (e :: es) X.env = (false, eval e X.env) :: starEach es X.env) (hpl : (backTo pos (starEach es X.env)).any (·.1) = false) :
    PE X (.Call (.Attribute (.Name b p2) "__init__" p3) (e :: es) [] pos) (tAeI X.K ta) := by
  refine ⟨fun pins s σ H Q I h => ?_⟩
  refine PySem.W.methodCall_KW (ld_glob I hg hm ?_ hd) hc
  refine PySem.W.method_cls I.kIn T.ga (PySem.W.cls_value I.kIn T.rd T.at_ (by decide +kernel) ?_)
  show wpAny _ _ (callWith pos (Value.builtin "ArithmeticError.__init__") [] (backTo pos (starEach (e :: es) X.env)) []) _ _ _
  refine PyProof.Rows.callWith_method1 (thn (ha.run pos pins _ σ H _ (I.tok _) h) fun us s1 ⟨vs, H1, I1, r1, x, C, ws, ev, hl, T1, hx, q⟩ => ?_) he hpl
  subst ev
  cases r1 with
  | @cons _ u0 _ ur ra rw' =>
    obtain rfl : u0 = Value.ref x := ra
    have len : ur.length ≤ sizeLine := by
      rw [← Paired.length rw', sizeLine_eq]
      omega
    exact base_ok2 T1 I1 hx len fun s2 J => ⟨.non, H1, J, rfl, q⟩
theorem ps_ast (ho : PE X o to) (he : PE X e te) (hs : swapsWith e (some (.Attribute o f p)) pos.line X.env = pure false) : PS X (.Assign [.Attribute o f p] e pos) (tAst X.K f to te) := by
  refine ⟨fun pins s σ H D I h => ?_⟩
  refine plainObj_wpAny_Assign_Attribute (thn (he.run pins s σ H _ I h) fun v s1 ⟨y, H1, I1, r1, q1⟩ => thn (ho.run pins s1 σ H1 _ I1 q1) fun u s2 ⟨w, H2, I2, r2, x, C, ex, T, na, hx, q⟩ => ?_) hs
  subst ex
  obtain rfl : u = Value.ref x := r2
  exact ost_first T I2 hx na r1 fun dx s2 n ne J => ⟨σ, _, J, q dx n ne⟩
/-- C(e, ..), by C's own __init__ -/
theorem pmk_aex {CX : CXT} {x : Str} {C fI : Addr} {k : Nat} {fd : FuncData} {ps : List Str} {sp : Sp} (T : OexA X.K C) (iC : PySem.W.findIn X.K (.ref C) "__init__" = some (some (.ref fI))) (tI : PySem.W.typeIn X.K (.ref fI) = some (.type "function"))
    (F1 : FnOk X.prog X.w X.K X.mg X.base CX k fI fd ps sp) (hr : Room (k + 1) X.A) (hb : Binds X.K fd ps []) (hx : Passes CX X (fun _ _ _ => False)) (hg : Gl X x) (hm : X.mg x = some (.ref C)) (ha : PA X (e :: es) ta)
    (hdb : (x == ("__debug__" : Str)) = false) (he : starEach (e :: es) X.env = (false, eval e X.env) :: starEach es X.env) (hpl : (backTo pos (starEach es X.env)).any (·.1) = false) :
    PMk X (.Call (.Name x p) (e :: es) [] pos) (tMkO C sp [] ta) := by
  intro pins s σ H Q I h
  obtain ⟨nm, q, N, bs, bm, sn, sub, ab, col, dd, k0, k1, k2, k3, k5, lk, om⟩ := T.obj
  refine wpAny_Call_Name_kw (ld_glob I hg hm ?_ hdb)
  refine PySem.W.callWith_K (h₀ := X.base) I.ok.mod.kin T.kC (thn (ha.run pos pins s σ H _ I h) fun us s1 ⟨vs, H1, I1, r1, hz, q1⟩ => ⟨I1.kIn, ?_⟩) he hpl
  show wpAny _ _ (call (.ref C) us) _ _ _
  obtain ⟨hp, gs, dr, tk, os⟩ := s1
  have up1 : hp.objs.size ≤ hp.objs.size + 1 := Nat.le_succ _
  have fr : H1 (hp.objs.size + 1) = none := I1.hok.fresh up1
  have q2 := q1 (hp.objs.size + 1) fr
  have kp : ∀ b o, hp.get? b = some o → ((hp.push (PySem.W.kdv_tup us)).push (PySem.HandSPX.excO C hp.objs.size)).get? b = some o := fun b o z => Heap.get?_push_of_some _ (Heap.get?_push_of_some _ z)
  have gx : ((hp.push (PySem.W.kdv_tup us)).push (PySem.HandSPX.excO C hp.objs.size)).get? (hp.objs.size + 1) = some (PySem.HandSPX.excO C hp.objs.size) := by heap_get
  have I2 : Inv X pins σ (upd H1 (hp.objs.size + 1) (exo (hp.objs.size + 1) C none)) ⟨(hp.push (PySem.W.kdv_tup us)).push (PySem.HandSPX.excO C hp.objs.size), gs, dr, tk, os⟩ :=
    I1.laid (t' := tk) (a := hp.objs.size + 1) (o := exo (hp.objs.size + 1) C none) (h' := (hp.push (PySem.W.kdv_tup us)).push (PySem.HandSPX.excO C hp.objs.size)) kp up1 (exo_ok gx)
  have r2 : Vals (V.ref (hp.objs.size + 1) :: (vs ++ [])) (Value.ref (hp.objs.size + 1) :: us) := by
    rw [List.append_nil]
    exact .cons rfl r1
  have len : (Value.ref (hp.objs.size + 1) :: us ++ []).length = ps.length := by
    have z := r2.length
    rw [F1.len _ _ _ _ q2] at z
    rw [List.append_nil]
    exact z.symm
  have bnd := hb _ (Value.ref (hp.objs.size + 1) :: us) I2.kIn len
  rw [List.append_nil] at bnd
  have lus : us.length ≤ sizeLine := by
    rw [← Paired.length r1, sizeLine_eq]
    omega
  refine wpAny_call (PySem.HandSPX.call_own PySem.F.excBase_ArithmeticError (fun z => om.has z) (I1.kIn _ _ lk) (PySem.W.looks_findIn I1.kIn iC) (fun self => PySem.W.bind_fn I1.kIn self tI) lus
    (codeAny_mono (F1.run _ X.stack _ _ ⟨Value.ref (hp.objs.size + 1) :: us, []⟩ (Value.ref (hp.objs.size + 1) :: us) _ _ (fun _ _ _ => False) (hr.make C us []) (I2.env0.make C us []) bnd r2 q2) fun r s2 z => ?_))
  cases r with
  | error er => exact hx pins σ _ _ er s2 I2 z
  | ok fl =>
    cases fl with
    | ret u =>
      obtain ⟨v, H2, os2, bare2, un2, hok2, rv, ev, d, fs, ea, ed, hd1, q3⟩ := z
      subst ev
      obtain ⟨h2, g2, d2, t2, os3⟩ := s2
      exact ⟨rv, mk_end (raises_own T.exC T.tyC) I1 up1 kp un2 hok2 os2 bare2 ea ed hd1 q3⟩
    | _ => exact False.elim z
end
end FF
namespace FF
open PySem PySem.Spec PyProof.Rows L2
/-! ### several except clauses, with and without names -/
/-- behind a suite with a name: the name is gone -/
def gone (i : Option Nat) (σ : L2.St) : L2.St := match i with
  | some j => σ.set j none
  | none => σ
def Ends.gone (D : Ends) (i : Option Nat) : Ends := { nx := fun σ H => D.nx (FF.gone i σ) H, rt := D.rt, bk := fun σ H => D.bk (FF.gone i σ) H, ct := fun σ H => D.ct (FF.gone i σ) H }
def bound (i : Option Nat) (e : Addr) (σ : L2.St) : L2.St := match i with
  | some j => σ.set j (some (.ref e))
  | none => σ
abbrev HTS := Addr → Value → Option Addr → TS
/-- what is wished of an exception of the body -/
def wHds (K : PySem.W.Frag) (Wo : WX) (D : Ends) : List (Value × Option Nat × HTS) → WX
  | [] => Wo
  | (c, i, ts) :: r => fun cls d σ H => ∃ b, PySem.W.exmOne K cls c = some b ∧ (b = true → ∀ e, H e = none → ts e cls d (Ends.gone D i) (bound i e σ) H) ∧ (b = false → wHds K Wo D r cls d σ H)
inductive HdsN (X : Cx) : List ExceptHandler → List (Value × Option Nat × HTS) → Prop
  | nil : HdsN X [] []
  | only {x : Str} {c : Value} {ts : HTS} {st : Stmt} {rest : List Stmt} {p1 p2 : Pos} {hs : List ExceptHandler} {l : List (Value × Option Nat × HTS)} (nm : Names X x c)
      (su : ∀ (e : Addr) (oe : Obj) (cls : Value) (d : Option Addr) (pn : List (Addr × Obj)), Zc cls d oe → (∃ vs, oe.data = .fields vs) → PSs (X.suite e ((e, oe) :: pn)) (st :: rest) (ts e cls d)) (r : HdsN X hs l) :
      HdsN X (.ExceptHandler (some (.Name x p1)) none (st :: rest) p2 :: hs) ((c, none, ts) :: l)
  | as_ {x n : Str} {i : Nat} {c : Value} {ts : HTS} {st : Stmt} {rest : List Stmt} {p1 p2 : Pos} {hs : List ExceptHandler} {l : List (Value × Option Nat × HTS)} (nm : Names X x c) (ni : X.N[i]? = some n) (nl : X.env.kindOf n = some .local)
      (su : ∀ (e : Addr) (oe : Obj) (cls : Value) (d : Option Addr) (pn : List (Addr × Obj)), Zc cls d oe → (∃ vs, oe.data = .fields vs) → PSs (X.suite e ((e, oe) :: pn)) (st :: rest) (ts e cls d)) (r : HdsN X hs l) :
      HdsN X (.ExceptHandler (some (.Name x p1)) (some n) (st :: rest) p2 :: hs) ((c, some i, ts) :: l)
section
variable {X : Cx} {body : List Stmt} {h1 : ExceptHandler} {hs : List ExceptHandler} {l : List (Value × Option Nat × HTS)} {pos : Pos} {tb : WX → TS} {Wo : WX}
theorem ps_try_hds (stk : X.stack = X.env :: X.outer) (frm : X.env.frame = some X.env.locals) (nd : X.N.Nodup) (tk : Takes X Wo)
    (bd : ∀ (W : WX) (pn : List (Addr × Obj)) (xe : Value → Shared → Prop), Takes (X.tr pn xe) W → PassesOwn (model X.prog X.w) X.A X.env xe → PSs (X.tr pn xe) body (tb W))
    (hh : HdsN X (h1 :: hs) l) : PS X (.Try body (h1 :: hs) [] [] pos) (fun D σ H => tb (wHds X.K Wo D l) D σ H) := by
  refine ⟨fun pins s σ H D I h => ?_⟩
  have okX := I.ok
  have frs' : X.A.frames = some (X.env :: X.outer) := by rw [okX.frames, stk]
  refine wpAny_Try_except ?_
  refine wpAny_mono ((bd (wHds X.K Wo D l) (X.pn ++ pins) (fun v s1 => wpAny (model X.prog X.w) X.A (noteFrame v X.env) (fun _ s2 => wpAny (model X.prog X.w) X.A (setFlight v none) (fun _ s3 =>
    wpAny (model X.prog X.w) X.A (handleBy v X.env (h1 :: hs)) (SP X pins D) X.xe s3) X.xe s2) X.xe s1) (fun v s2 z => ?_) PassesOwn.looking).run [] s σ H D (I.toTry _) h) (fun f s1 z => ?_) (fun v s1 z => z)
  · obtain ⟨e, G, s0, pins2, σ2, H2, cls, d, rfl, J2, nb, up, sky, ne, os, ag, w⟩ := z
    have J : Inv X pins σ2 H2 s0 := J2.ofTry okX
    have sky2 : Sky G (X.env :: X.outer) e (Zc cls d) X.env.locals s2.heap := by rw [← stk]; exact sky
    show wpAny (model X.prog X.w) X.A (noteFrame (.ref e) X.env) _ _ _
    refine Sky.land Zc.steady frs' frm sky2 fun m3 fl3 up3 => ?_
    have J3 : Inv X pins σ2 H2 { s2 with heap := m3 } := J.landed nb fl3.1 (up.trans up3) os ag
    obtain ⟨o3, v3, g3, z3, d3⟩ := fl3.there
    have nof : e ∉ frs (X.env :: X.outer) := fun hm => by
      obtain ⟨_, o', e', nf⟩ := Heap.FunFrames.mem fl3.2.2.1 hm
      rw [g3] at e'
      cases e'
      exact nf _ d3
    have nL : e ≠ X.env.locals := fun q => nof (List.mem_filterMap.mpr ⟨X.env, List.mem_cons_self, by rw [frm, q]⟩)
    have nF : e ∉ X.fs := fun hm => by
      obtain ⟨v, hv, q⟩ := List.mem_filterMap.mp hm
      exact nof (List.mem_filterMap.mpr ⟨v, List.mem_cons_of_mem _ hv, q⟩)
    have S3 := J3.suite g3 d3 ne nL nF
    have LT : PySem.W.Looks (model X.prog X.w) m3 (typeOf (.ref e)) cls := fun A Q E s k q => wpAny_typeOf_ref (k _ _ g3) (by rw [z3.1]; exact q)
    have test : ∀ {x : Str} {c : Value} {np : Pos} {Q : Value → Shared → Prop} {E : Value → Shared → Prop}, Names X x c → Q c { s2 with heap := m3 } → wpAny (model X.prog X.w) (X.A.mark (some (.ref e))) (eval (.Name x np) X.env) Q E { s2 with heap := m3 } := fun {x c np Q E} nm q => by
      obtain ⟨hg, hdb, hm | ⟨hm, hv, hn⟩⟩ := nm
      · exact ld_glob (X := X.suite e ((e, o3) :: (X.pn ++ pins))) S3 hg hm q hdb
      · exact ld_blt (X := X.suite e ((e, o3) :: (X.pn ++ pins))) S3 hg hm hv q hn hdb
    have go : ∀ {ks : List ExceptHandler} {lk : List (Value × Option Nat × HTS)}, HdsN X ks lk → wHds X.K Wo D lk cls d σ2 H2 →
        wpAny (model X.prog X.w) X.A (handleBy (.ref e) X.env ks) (SP X pins D) X.xe { s2 with heap := m3 } := by
      intro ks lk hk
      induction hk with
      | nil =>
        intro w
        refine wpAny_handleBy_nil ?_
        obtain ⟨k1, k2, k3, o9, v9, T9, oT9, t9, g9, z9, d9, h9, r9⟩ := id fl3
        unfold PySem.passOn
        refine wpAny_bind (wpAny_field g9 d9 h9 ?_)
        rw [if_neg (show ¬ ((Value.ref T9 == Value.none) = true) from by simp)]
        have fin : wpAny (model X.prog X.w) X.A (setFlight (.ref e) X.env.frame) (fun _ s4 => wpAny (model X.prog X.w) X.A (throw (.ref e) : Sem Flow) (SP X pins D) X.xe s4) X.xe { s2 with heap := m3 } := by
          rw [frm]
          refine HandSPX.setFlight_upZ fl3 fun m4 k4 up4 => wpAny_throw (tk _ _ ?_)
          exact ⟨e, G, s0, pins, σ2, H2, cls, d, rfl, J, nb, (up.trans up3).trans up4, .inr (.inr (by rw [stk]; exact k4)), ne, os, ag, w⟩
        first
          | exact wpAny_bind (wpAny_pure (wpAny_bind fin))
          | exact wpAny_bind fin
      | @only x c ts st rest p1 p2 hs2 l2 nm su r ih =>
        intro w
        obtain ⟨b, b1, yes, no⟩ := w
        refine wpAny_handleBy_cons (codeAny_handlers_test ?_) (by intro q; cases q)
        have LM := PySem.W.exm_one (M := model X.prog X.w) (J3.kIn) LT b1
        refine test nm (LM.here ?_)
        cases b with
        | true =>
          refine codeAny_handlers_suite ?_
          refine HandSPX.lands_againZ fl3 fun m4 fl4 up4 => ?_
          have J4 : Inv X pins σ2 H2 { s2 with heap := m4 } := J.landed nb fl4.1 ((up.trans up3).trans up4) os ag
          obtain ⟨o4, v4, g4, z4, d4⟩ := fl4.there
          have S4 := J4.suite g4 d4 ne nL nF
          refine wpAny_mono ((su e o4 cls d (X.pn ++ pins) z4 ⟨_, d4⟩).run [] _ _ H2 _ S4 (yes rfl e ne)) (fun f s6 z => ?_) (fun _ _ z => False.elim z)
          cases f with
          | ret u =>
            obtain ⟨v6, σ6, H6, S6, r6, q6⟩ := z
            exact ⟨_, _, _, S6.unsuite okX, r6, q6⟩
          | next => obtain ⟨σ6, H6, S6, q6⟩ := z; exact ⟨_, _, S6.unsuite okX, q6⟩
          | brk => obtain ⟨σ6, H6, S6, q6⟩ := z; exact ⟨_, _, S6.unsuite okX, q6⟩
          | cont => obtain ⟨σ6, H6, S6, q6⟩ := z; exact ⟨_, _, S6.unsuite okX, q6⟩
        | false => exact ih (no rfl)
      | @as_ x n i c ts st rest p1 p2 hs2 l2 nm ni nl su r ih =>
        intro w
        obtain ⟨b, b1, yes, no⟩ := w
        refine wpAny_handleBy_cons (codeAny_handlers_test ?_) (by intro q; cases q)
        have LM := PySem.W.exm_one (M := model X.prog X.w) (J3.kIn) LT b1
        refine test nm (LM.here ?_)
        cases b with
        | true =>
          refine codeAny_handlers_suite_as ?_
          refine HandSPX.lands_againZ fl3 fun m4 fl4 up4 => ?_
          have J4 : Inv X pins σ2 H2 { s2 with heap := m4 } := J.landed nb fl4.1 ((up.trans up3).trans up4) os ag
          obtain ⟨o4, v4, g4, z4, d4⟩ := fl4.there
          have S4 := J4.suite g4 d4 ne nL nF
          refine store_ok (X := X.suite e ((e, o4) :: (X.pn ++ pins))) (v := .ref e) S4 nd ni (.inl nl) rfl (fun s5 S5 => ?_) (.inr nl)
          refine wpAny_mono ((su e o4 cls d (X.pn ++ pins) z4 ⟨_, d4⟩).run [] s5 _ H2 _ S5 (yes rfl e ne)) (fun f s6 z => ?_) (fun _ _ z => False.elim z)
          have last : ∀ {σ6 : L2.St} {H6 : Hp} {Q : Shared → Prop}, Inv (X.suite e ((e, o4) :: (X.pn ++ pins))) [] σ6 H6 s6 → (∀ s7, Inv X pins (σ6.set i none) H6 s7 → Q s7) →
              wpAny (model X.prog X.w) X.A (do bindName X.env n .none; unbindBehindTheSuite X.env n p2) (fun _ s7 => Q s7) X.xe s6 := fun {σ6 H6 Q} S6 q => gone_ok (S6.unsuite okX) nd ni nl q
          cases f with
          | ret u =>
            obtain ⟨v6, σ6, H6, S6, r6, q6⟩ := z
            exact last S6 fun s7 J7 => ⟨_, _, _, J7, r6, q6⟩
          | next => obtain ⟨σ6, H6, S6, q6⟩ := z; exact last S6 fun s7 J7 => ⟨_, _, J7, q6⟩
          | brk => obtain ⟨σ6, H6, S6, q6⟩ := z; exact last S6 fun s7 J7 => ⟨_, _, J7, q6⟩
          | cont => obtain ⟨σ6, H6, S6, q6⟩ := z; exact last S6 fun s7 J7 => ⟨_, _, J7, q6⟩
        | false => exact ih (no rfl)
    exact go hh w
  · cases f with
    | next => obtain ⟨σ2, H2, J2, q⟩ := z; exact wpAny_execs_nil ⟨σ2, H2, J2.ofTry okX, q⟩
    | brk => obtain ⟨σ2, H2, J2, q⟩ := z; exact ⟨σ2, H2, J2.ofTry okX, q⟩
    | cont => obtain ⟨σ2, H2, J2, q⟩ := z; exact ⟨σ2, H2, J2.ofTry okX, q⟩
    | ret u => obtain ⟨v, σ2, H2, J2, r, q⟩ := z; exact ⟨v, σ2, H2, J2.ofTry okX, r, q⟩
end
end FF
namespace FF
open PySem PySem.Spec PyProof.Rows L2
theorem Env.length_nex : ∀ {σ : Env}, σ.nex.length = σ.length
  | [] => rfl
  | _ :: r => congrArg (· + 1) (Env.length_nex (σ := r))
theorem Env.at_nex : ∀ {σ : Env} {i : Nat}, σ.nex.at i = (σ.at i).nex
  | [], _ => rfl
  | _ :: _, 0 => rfl
  | _ :: r, i + 1 => Env.at_nex (σ := r) (i := i)
theorem Slot.nex_own {s : Slot} {l : List D} (h : s.nex = .own l) : s = .own l := by
  cases s <;> first | exact h | cases h
section
variable {T : Tb} {pn pn' : List (Addr × Obj)} {F G F0 G0 : Hp} {σ : Env} {h : AH} {τ : L2.St} {H : Hp}
/-- exceptions forgotten: the pins are free -/
theorem SR0.nex (x : SR0 T pn F G σ h τ H) : SR0 T pn' F G σ.nex h τ H := by
  refine ⟨x.sh, Env.length_nex.trans x.len, fun i => ?_, fun i j l m a hn e1 e2 e3 => ?_⟩
  · have q := x.slot i
    rw [Env.at_nex]
    cases e : σ.at i with
    | exc c d => trivial
    | un => trivial
    | val d => rw [e] at q; exact q
    | own l => rw [e] at q; exact q
  · rw [Env.at_nex] at e1 e2
    exact x.sep i j l m a hn (Slot.nex_own e1) (Slot.nex_own e2) e3
theorem SR.nex (x : SR T ⟨pn, F0, G0⟩ F G σ h τ H) : SR T ⟨pn', F0, G0⟩ F G σ.nex h τ H := ⟨x.s.nex, x.lF, x.lG⟩
/-- a caught exception gets a name -/
theorem SR0.catch_ {i : Nat} {c : Nat} {d : D} {e dd : Addr} {oe : Obj} {v : V} (x : SR0 T pn F G σ h τ H) (hp : (e, oe) ∈ pn) (z : Zc (.ref (T.cA c)) (some dd) oe) (fv : ∃ fv, oe.data = .fields fv) (hd : F dd = some (.xd [(T.xf c, v)])) (r : Rep T F d v) :
    SR0 T pn F G (σ.put i (.exc c d)) h (τ.set i (some (.ref e))) H := by
  refine ⟨x.sh, by rw [Env.length_put, List.length_set]; exact x.len, fun j => ?_, fun j k l m a hn e1 e2 e3 e4 => ?_⟩
  · by_cases hi : i < σ.length
    · by_cases hj : j = i
      · subst hj
        rw [Env.at_put_self hi, List.getElem?_set_self (x.len ▸ hi)]
        exact ⟨e, oe, dd, v, rfl, hp, z, fv, hd, r⟩
      · rw [Env.at_put_ne hj, List.getElem?_set_ne (Ne.symm hj)]
        exact x.slot j
    · rw [Env.put_out (Nat.le_of_not_lt hi), List.set_eq_of_length_le (by rw [← x.len]; exact Nat.le_of_not_lt hi)]
      exact x.slot j
  · by_cases hi : i < σ.length
    · have n1 : j ≠ i := fun z => by subst z; rw [Env.at_put_self hi] at e1; cases e1
      have n2 : k ≠ i := fun z => by subst z; rw [Env.at_put_self hi] at e2; cases e2
      rw [Env.at_put_ne n1] at e1
      rw [Env.at_put_ne n2] at e2
      rw [List.getElem?_set_ne (Ne.symm n1)] at e3
      rw [List.getElem?_set_ne (Ne.symm n2)] at e4
      exact x.sep j k l m a hn e1 e2 e3 e4
    · rw [Env.put_out (Nat.le_of_not_lt hi)] at e1 e2
      rw [List.set_eq_of_length_le (by rw [← x.len]; exact Nat.le_of_not_lt hi)] at e3 e4
      exact x.sep j k l m a hn e1 e2 e3 e4
end
section
variable {X : Cx} {T : Tb} {RR : RRt} {Γ : Gam}
/-! ### a field of a caught exception -/
theorem le_xfld {i : Nat} {cs : List Nat} {x f : Str} {p pos : Pos} (hK : X.K = T.K) (hN : X.N[i]? = some x) (hv : Vis X.env.scope x) (hd : (x == ("__debug__" : Str)) = false) (hcd : (x == ("__classdict__" : Str)) = false) (hb : noSuper (.Name x p) = true)
    (hc : ∀ c ∈ cs, T.xf c = f ∧ XfC T.K (T.cA c) ∧ PySem.W.findIn T.K (.ref (T.cA c)) f = some none) : PE X (.Attribute (.Name x p) f pos) (LE T X RR (wpE Γ (.xfld i cs))) := by
  refine ⟨fun pins s τ H Q I ⟨F, G, σ, h, Qd, sr, w, k⟩ => ?_⟩
  have w : (match σ.at i with
    | .exc c d => c ∈ cs ∧ Qd d h
    | _ => False) := w
  cases e0 : σ.at i with
  | exc c d =>
    rw [e0] at w
    have q0 := sr.slot i
    rw [e0] at q0
    obtain ⟨e, oe, dd, v, p1, p2, z, fv, hF, r⟩ := q0
    obtain ⟨x1, x2, x3⟩ := hc c w.1
    refine attr_of (base_ok hb) (thn ((pe_var (pos := p) hN hv hd hcd).run pins s τ H (fun v H1 => v = .ref e ∧ H1 = H) I ⟨_, p1, rfl, rfl⟩) fun u s1 ⟨v1, H1, I1, r1, e1, e2⟩ => ?_)
    subst e1 e2
    obtain rfl : u = Value.ref e := r1
    obtain ⟨ha, _⟩ := I1.pin (e, oe) (List.mem_append_left _ p2)
    obtain ⟨vs, hd'⟩ := fv
    have hx : ObjOk X.prog X.w H1 s1.heap dd (.xd [(T.xf c, v)]) := I1.hok dd _ (sr.sh.sF _ _ hF)
    obtain ⟨mA, hns, hr⟩ := hx
    obtain ⟨od, ho, hl⟩ := lookIn_ns hns
    have lk : [(T.xf c, v)].lookup f = some v := by rw [x1]; simp [List.lookup]
    obtain ⟨u, hu, ru⟩ := RelO.some_of (v := v) (o := mA f) (by rw [← lk]; exact hr f)
    have J : PySem.W.InstAt s1.heap e oe (T.cA c) (some od) := ⟨ha, z.1, by unfold PySem.W.notCls; rw [hd'], by rw [z.2]; exact ho⟩
    have X2 : XfC X.K (T.cA c) := hK ▸ x2
    have X3 : PySem.W.findIn X.K (.ref (T.cA c)) f = some none := hK ▸ x3
    exact HandSPX.exc_get I1.kIn J X2.ga X2.gg X2.exC (PySem.W.findObj_own X2.hdC X3 rfl (by rw [hl, hu])) (handed_of ru) ⟨v, H1, I1.tok _, ru, k d h v F H1 (Same.refl _) sr r w.2⟩
  | _ => rw [e0] at w; exact w.elim
/-! ### raise -/
/-- what the making of an exception leans on -/
def spX (T : Tb) (c : Nat) : Sp := fun vs H Q _ => ∃ (e : Addr) (v : V), vs = [.ref e, v] ∧ H e = some (exo e (T.cA c) none) ∧ ∀ dx, H dx = none → dx ≠ e → Q .non (upd (upd H dx (exd dx [(T.xf c, v)])) e (exo e (T.cA c) (some dx)))
structure GoodX (P : Program) (w : World) (T : Tb) (mg : Str → Option Value) (base : Heap) (k : Nat) (c : Nat) : Prop where
  ox : OexA T.K (T.cA c)
  ex : ∃ (fI : Addr) (fd : FuncData) (ps : List Str), PySem.W.findIn T.K (.ref (T.cA c)) "__init__" = some (some (.ref fI)) ∧ PySem.W.typeIn T.K (.ref fI) = some (.type "function") ∧ FnOk P w T.K mg base (L2.CX P w) k fI fd ps (spX T c) ∧ Binds T.K fd ps []
theorem GoodX.mono {P : Program} {w : World} {mg : Str → Option Value} {base : Heap} {j k c : Nat} (g : GoodX P w T mg base j c) (h : j ≤ k) : GoodX P w T mg base k c := by
  obtain ⟨ox, fI, fd, ps, h1, h2, F, b⟩ := g
  exact ⟨ox, fI, fd, ps, h1, h2, F.mono h, b⟩
theorem ls_raise {k c : Nat} {a : E} {e : Expr} {y : Str} {p p2 pos : Pos} (hK : X.K = T.K) (hc : X.calm = true) (g : GoodX X.prog X.w T X.mg X.base k c) (hr : Room (k + 1) X.A) (hg : Gl X y) (hm : X.mg y = some (.ref (T.cA c))) (tk : Takes X (WR T X RR)) (hs : noStar e = true)
    (hd : (y == ("__debug__" : Str)) = false) (ha : PE X e (LE T X RR (wpE Γ a))) : PS X (.Raise (some (.Call (.Name y p) [e] [] p2)) none pos) (LS T X RR (wpS Γ (.raise c a))) := by
  obtain ⟨ox, fI, fd, ps, h1, h2, F, b⟩ := g
  have ox : OexA X.K (T.cA c) := hK ▸ ox
  have F : FnOk X.prog X.w X.K X.mg X.base (L2.CX X.prog X.w) k fI fd ps (spX T c) := hK ▸ F
  have b : Binds X.K fd ps [] := hK ▸ b
  refine PS.imp (ps_raise hc tk (pmk_aex (e := e) (es := []) ox (hK ▸ h1) (hK ▸ h2) F hr b (passes_call tk fun _ _ _ _ z => z.elim) hg hm (pa_cons ha pa_nil (star_cons hs)) hd (star_cons hs) rfl)) fun D τ H ⟨F0, G, σ, h, nx, rt, ct, sr, w, _⟩ => ?_
  refine ⟨F0, G, σ, h, _, sr, w, fun d h1 v F1 H1 s1 sr1 r1 w1 => ⟨(show 1 ≤ 1000 by decide), fun ea na => ⟨ea, v, rfl, upd_same, fun dx n ne => ⟨rfl, dx, [(T.xf c, v)], upd_same, ?_, ?_, ?_⟩⟩⟩⟩
  · rw [upd_ne ne, upd_same]
  · rw [upd_ne ne] at n; exact n
  · rw [upd_ne ne] at n
    have eH : upd (del (upd (upd (upd H1 ea (exo ea (T.cA c) none)) dx (exd dx [(T.xf c, v)])) ea (exo ea (T.cA c) (some dx))) ea) dx (.xd [(T.xf c, v)]) = upd H1 dx (.xd [(T.xf c, v)]) := by
      funext z
      by_cases z1 : z = dx
      · subst z1; rw [upd_same, upd_same]
      · rw [upd_ne z1, upd_ne z1]
        by_cases z2 : z = ea
        · subst z2; rw [del_same]; exact na.symm
        · rw [del_ne z2, upd_ne z2, upd_ne z1, upd_ne z2]
    rw [eH]
    have gw := Grow.new (o := .xd [(T.xf c, v)]) sr1.sh.sF n
    exact ⟨_, G, σ, h1, ⟨c, d⟩, dx, v, rfl, rfl, sr1.grow gw, upd_same, r1.mono gw.f, w1⟩
/-! ### try -/
def bindE (i : Option Nat) (c : Nat) (d : D) (σ : Env) : Env := match i with
  | some j => σ.put j (.exc c d)
  | none => σ
def wipeE (i : Option Nat) (σ : Env) : Env := match i with
  | some j => σ.put j .un
  | none => σ
theorem Env.nex_nex : ∀ {σ : Env}, σ.nex.nex = σ.nex
  | [] => rfl
  | s :: r => by
    show s.nex.nex :: Env.nex (Env.nex r) = s.nex :: Env.nex r
    rw [Env.nex_nex (σ := r)]
    cases s <;> rfl
theorem PSs.ex {X : Cx} {α : Type} {es : List Stmt} {t : α → TS} (h : ∀ a, PSs X es (t a)) : PSs X es (fun D τ H => ∃ a, t a D τ H) := ⟨fun pins s τ H D I ⟨a, q⟩ => (h a).run pins s τ H D I q⟩
/-- a suite, in the layer's words -/
def HSt (T : Tb) (Γ : Gam) (i : Option Nat) (b : Ss) : HTS := fun e cls d De τ H => ∃ (τ2 : L2.St) (F0 G0 F G : Hp) (σ : Env) (h : AH) (nx : Env → AH → Prop) (rt : D → AH → Prop) (ct : Env → AH → Prop) (c : Nat) (dv : D) (dd : Addr) (v : V), τ = bound i e τ2 ∧ cls = .ref (T.cA c) ∧ d = some dd ∧ F dd = some (.xd [(T.xf c, v)]) ∧ Rep T F dv v ∧ SR T ⟨[], F0, G0⟩ F G σ.nex h τ2 H ∧
  wpSs Γ b (bindE i c dv σ.nex) h ⟨fun σ h => nx (wipeE i σ).nex h, rt, fun σ h => ct (wipeE i σ).nex h, fun _ _ _ => False⟩ ∧
  (∀ (σ' : Env) h' τ' F' H', Same F F' → SR T ⟨[], F0, G0⟩ F' G (wipeE i σ').nex h' (gone i τ') H' → nx (wipeE i σ').nex h' → De.nx τ' H') ∧
  (∀ d h' v (σ' : Env) τ' F' H', Same F F' → SR T ⟨[], F0, G0⟩ F' G σ'.nex h' τ' H' → Rep T F' d v → rt d h' → De.rt v H') ∧
  (∀ (σ' : Env) h' τ' F' H', Same F F' → SR T ⟨[], F0, G0⟩ F' G (wipeE i σ').nex h' (gone i τ') H' → ct (wipeE i σ').nex h' → De.ct τ' H')
theorem wipe_gone {pn : List (Addr × Obj)} {F0 G0 F G : Hp} {σ : Env} {h : AH} {τ : L2.St} {H : Hp} {i : Option Nat} (x : SR T ⟨pn, F0, G0⟩ F G σ h τ H) : SR T ⟨[], F0, G0⟩ F G (wipeE i σ).nex h (gone i τ) H := by
  cases i with
  | none => exact x.nex
  | some j => exact (x.forget (i := j) (o := none)).nex
theorem suite_ok {i : Option Nat} {b : Ss} {st : Stmt} {rest : List Stmt} {e : Addr} {oe : Obj} {cls : Value} {d : Option Addr} {pn : List (Addr × Obj)} (z : Zc cls d oe) (fv : ∃ vs, oe.data = .fields vs)
    (hb : ∀ F0 G0, PSs (X.suite e ((e, oe) :: pn)) (st :: rest) (LS T (X.suite e ((e, oe) :: pn)) ⟨F0, G0, fun _ _ _ => False⟩ (wpSs Γ b))) : PSs (X.suite e ((e, oe) :: pn)) (st :: rest) (HSt T Γ i b e cls d) := by
  refine PSs.imp (PSs.ex (α := Hp × Hp) fun a => hb a.1 a.2) fun D τ H ⟨τ2, F0, G0, F, G, σ, h, nx, rt, ct, c, dv, dd, v, e1, e2, e3, e4, r, sr, w, k1, k2, k3⟩ => ?_
  subst e1 e2 e3
  refine ⟨(F0, G0), F, G, bindE i c dv σ.nex, h, (fun σ h => nx (wipeE i σ).nex h), rt, (fun σ h => ct (wipeE i σ).nex h), ?_, w, ?_, ?_, ?_⟩
  · have s0 : SR0 T ((e, oe) :: pn) F G σ.nex h τ2 H := by
      have := sr.s.nex (pn' := (e, oe) :: pn)
      rw [Env.nex_nex] at this
      exact this
    cases i with
    | none => exact ⟨s0, sr.lF, sr.lG⟩
    | some j => exact ⟨s0.catch_ List.mem_cons_self z fv e4 r, sr.lF, sr.lG⟩
  · exact fun σ' h' τ' F' H' s sr' q => k1 σ' h' τ' F' H' s (wipe_gone sr') q
  · exact fun d h' v σ' τ' F' H' s sr' r q => k2 d h' v σ' τ' F' H' s sr'.nex r q
  · exact fun σ' h' τ' F' H' s sr' q => k3 σ' h' τ' F' H' s (wipe_gone sr') q
def hdsL (T : Tb) (Γ : Gam) : Hs → List (Value × Option Nat × HTS)
  | .nil => []
  | .cons c n b r => (.ref (T.cA c), n, HSt T Γ n b) :: hdsL T Γ r
theorem hds_go (hK : X.K = T.K) (exm : ∀ c1 c2 b, Γ.sub c1 c2 = some b → PySem.W.exmOne T.K (.ref (T.cA c1)) (.ref (T.cA c2)) = some b) {De : Ends} {F G : Hp} {nx ct : Env → AH → Prop} {rt : D → AH → Prop} (lF : Same RR.F0 F) (lG : G = RR.G0)
    (k1 : ∀ σ' h' τ' F' H', Same F F' → SR T (RR.lk X) F' G σ' h' τ' H' → nx σ' h' → De.nx τ' H') (k2 : ∀ d h' v σ' τ' F' H', Same F F' → SR T (RR.lk X) F' G σ' h' τ' H' → Rep T F' d v → rt d h' → De.rt v H')
    (k3 : ∀ σ' h' τ' F' H', Same F F' → SR T (RR.lk X) F' G σ' h' τ' H' → ct σ' h' → De.ct τ' H') :
    ∀ (hs : Hs) {x : Exc} {σ : Env} {h : AH} {F1 : Hp} {τ : L2.St} {H : Hp} {dd : Addr} {v : V}, SR T ⟨[], F, G⟩ F1 G σ.nex h τ H → F1 dd = some (.xd [(T.xf x.c, v)]) → Rep T F1 x.v v → wpH Γ hs x σ.nex h ⟨nx, rt, ct, RR.R⟩ →
      wHds X.K (WR T X RR) De (hdsL T Γ hs) (.ref (T.cA x.c)) (some dd) τ H
  | .nil, x, σ, h, F1, τ, H, dd, v, sr, hF, r, w => by
    have s0 := sr.s.nex (pn' := X.pn)
    rw [Env.nex_nex] at s0
    exact ⟨F1, G, σ.nex, h, x, dd, v, rfl, rfl, ⟨s0, lF.trans sr.lF, lG⟩, hF, r, w⟩
  | .cons c n b hr, x, σ, h, F1, τ, H, dd, v, sr, hF, r, w => by
    have up : ∀ {F2 : Hp} {σ2 : Env} {h2 : AH} {τ2 : L2.St} {H2 : Hp}, SR T ⟨[], F, G⟩ F2 G σ2.nex h2 τ2 H2 → SR T (RR.lk X) F2 G σ2.nex h2 τ2 H2 := fun {F2 σ2 h2 τ2 H2} s2 => by
      have s0 := s2.s.nex (pn' := X.pn)
      rw [Env.nex_nex] at s0
      exact ⟨s0, lF.trans s2.lF, lG⟩
    unfold wpH at w
    cases q : Γ.sub x.c c with
    | none => simp only [q] at w
    | some t =>
      simp only [q] at w
      cases t with
      | false =>
        refine ⟨false, hK ▸ exm _ _ _ q, (fun z => by cases z), fun _ => ?_⟩
        exact hds_go hK exm lF lG k1 k2 k3 hr sr hF r w
      | true =>
        refine ⟨true, hK ▸ exm _ _ _ q, fun _ e _ => ?_, (fun z => by cases z)⟩
        refine ⟨τ, F, G, F1, G, σ, h, nx, rt, ct, x.c, x.v, dd, v, rfl, rfl, rfl, hF, r, sr, ?_, ?_, ?_, ?_⟩
        · cases n with
          | none => exact w
          | some i => exact w
        · exact fun σ' h' τ' F' H' s sr' q => k1 _ h' _ F' H' (sr.lF.trans s) (up sr') q
        · exact fun d h' v σ' τ' F' H' s sr' r q => k2 d h' v _ τ' F' H' (sr.lF.trans s) (up sr') r q
        · exact fun σ' h' τ' F' H' s sr' q => k3 _ h' _ F' H' (sr.lF.trans s) (up sr') q
theorem ls_try {b : Ss} {hs : Hs} {body : List Stmt} {h1 : ExceptHandler} {hds : List ExceptHandler} {pos : Pos} (hK : X.K = T.K) (stk : X.stack = X.env :: X.outer) (frm : X.env.frame = some X.env.locals) (nd : X.N.Nodup) (tk : Takes X (WR T X RR))
    (exm : ∀ c1 c2 b, Γ.sub c1 c2 = some b → PySem.W.exmOne T.K (.ref (T.cA c1)) (.ref (T.cA c2)) = some b)
    (hb : ∀ (pn : List (Addr × Obj)) (xe : Value → Shared → Prop) (R2 : RRt), Takes (X.tr pn xe) (WR T (X.tr pn xe) R2) → PassesOwn (model X.prog X.w) X.A X.env xe → Same RR.F0 R2.F0 → R2.G0 = RR.G0 → PSs (X.tr pn xe) body (LS T (X.tr pn xe) R2 (wpSs Γ b)))
    (hh : HdsN X (h1 :: hds) (hdsL T Γ hs)) : PS X (.Try body (h1 :: hds) [] [] pos) (LS T X RR (wpS Γ (.try_ b hs))) := by
  let Pr : WX → Hp → Hp → (Exc → Env → AH → Prop) → Prop := fun W F0 G0 R => ∀ (x : Exc) (σ : Env) (h : AH) (F G : Hp) (τ : L2.St) (H : Hp) (dd : Addr) (v : V), SR T ⟨[], F0, G0⟩ F G σ.nex h τ H → F dd = some (.xd [(T.xf x.c, v)]) → Rep T F x.v v → R x σ h → W (.ref (T.cA x.c)) (some dd) τ H
  let tbN : Hp → Hp → (Exc → Env → AH → Prop) → TS := fun F0 G0 R De τ H => ∃ (F G : Hp) (σ : Env) (h : AH) (nx : Env → AH → Prop) (rt : D → AH → Prop) (ct : Env → AH → Prop), SR T ⟨[], F0, G0⟩ F G σ.nex h τ H ∧ wpSs Γ b σ.nex h ⟨fun σ h => nx σ.nex h, rt, fun σ h => ct σ.nex h, R⟩ ∧
    (∀ (σ' : Env) h' τ' F' H', Same F F' → SR T ⟨[], F0, G0⟩ F' G σ'.nex h' τ' H' → nx σ'.nex h' → De.nx τ' H') ∧ (∀ d h' v (σ' : Env) τ' F' H', Same F F' → SR T ⟨[], F0, G0⟩ F' G σ'.nex h' τ' H' → Rep T F' d v → rt d h' → De.rt v H') ∧
    (∀ (σ' : Env) h' τ' F' H', Same F F' → SR T ⟨[], F0, G0⟩ F' G σ'.nex h' τ' H' → ct σ'.nex h' → De.ct τ' H')
  let tb : WX → TS := fun W De τ H => ∃ a : {p : Hp × Hp × (Exc → Env → AH → Prop) // Pr W p.1 p.2.1 p.2.2 ∧ Same RR.F0 p.1 ∧ p.2.1 = RR.G0}, tbN a.1.1 a.1.2.1 a.1.2.2 De τ H
  have main := ps_try_hds (body := body) (pos := pos) (tb := tb) (Wo := WR T X RR) stk frm nd tk (fun W pn xe tk2 pas => ?_) hh
  · refine PS.imp main fun D τ H ⟨F, G, σ, h, nx, rt, ct, sr, w, k1, k2, k3⟩ => ?_
    have w : wpSs Γ b σ.nex h ⟨fun σ h => nx σ.nex h, rt, fun σ h => ct σ.nex h, fun x σ h => wpH Γ hs x σ.nex h ⟨nx, rt, ct, RR.R⟩⟩ := w
    have up : ∀ {F2 : Hp} {σ2 : Env} {h2 : AH} {τ2 : L2.St} {H2 : Hp}, SR T ⟨[], F, G⟩ F2 G σ2.nex h2 τ2 H2 → SR T (RR.lk X) F2 G σ2.nex h2 τ2 H2 := fun {F2 σ2 h2 τ2 H2} s2 => by
      have s0 := s2.s.nex (pn' := X.pn)
      rw [Env.nex_nex] at s0
      exact ⟨s0, sr.lF.trans s2.lF, sr.lG⟩
    refine ⟨⟨(F, G, fun x σ h => wpH Γ hs x σ.nex h ⟨nx, rt, ct, RR.R⟩), ?_, sr.lF, sr.lG⟩, F, G, σ, h, nx, rt, ct, ⟨sr.s.nex, Same.refl _, rfl⟩, w, ?_, ?_, ?_⟩
    · intro x σ' h' F' G' τ' H' dd v sr' hF r q
      have eG : G' = G := sr'.lG
      subst eG
      exact hds_go hK exm sr.lF sr.lG k1 k2 k3 hs sr' hF r q
    · exact fun σ' h' τ' F' H' s sr' q => k1 _ h' τ' F' H' s (up sr') q
    · exact fun d h' v σ' τ' F' H' s sr' r q => k2 d h' v _ τ' F' H' s (up sr') r q
    · exact fun σ' h' τ' F' H' s sr' q => k3 _ h' τ' F' H' s (up sr') q
  · refine PSs.ex fun a => ?_
    obtain ⟨⟨F0, G0, R⟩, pr, sF0, eG0⟩ := a
    have tk3 : Takes (X.tr pn xe) (WR T (X.tr pn xe) ⟨F0, G0, R⟩) := Takes.imp tk2 fun cls d τ H ⟨F, G, σ, h, x, dd, v, e1, e2, sr, hF, r, q⟩ => by
      subst e1 e2
      exact pr x σ h F G τ H dd v sr.nex hF r q
    refine PSs.imp (hb pn xe ⟨F0, G0, R⟩ tk3 pas sF0 eG0) fun D τ H ⟨F, G, σ, h, nx, rt, ct, sr, w, k1, k2, k3⟩ => ?_
    refine ⟨F, G, σ.nex, h, (fun σ h => nx σ.nex h), rt, (fun σ h => ct σ.nex h), ?_, w, ?_, ?_, ?_⟩
    · have s0 := sr.s.nex (pn' := pn)
      rw [Env.nex_nex] at s0
      exact ⟨s0, sr.lF, sr.lG⟩
    · exact fun σ' h' τ' F' H' s sr' q => k1 σ' h' τ' F' H' s sr'.nex q
    · exact fun d h' v σ' τ' F' H' s sr' r q => k2 d h' v σ' τ' F' H' s sr'.nex r q
    · exact fun σ' h' τ' F' H' s sr' q => k3 σ' h' τ' F' H' s sr'.nex q
end
end FF
namespace FF
open PySem PySem.Spec PyProof.Rows L2
/-! ### a call that is given to a def -/
abbrev HSpec := (AH → QE → RE → Prop) → AH → QE → RE → Prop
/-- the promise of a def that is given a call: tl, what the call does, in the layer's words -/
def promH (T : Tb) (sp : HSpec) (tl : XK → Hp → VK → Prop) (H : Hp) (Q : VK) (E : XK) : Prop := ∃ F G h act Qd Rd, SH T F G h H ∧ sp act h Qd Rd ∧
  (∀ d h' v F' H', Same F F' → SH T F' G h' H' → Rep T F' d v → Qd d h' → Q v H') ∧
  (∀ x h' F' H' dd v, Same F F' → SH T F' G h' H' → F' dd = some (.xd [(T.xf x.c, v)]) → Rep T F' x.v v → Rd x h' → E (.ref (T.cA x.c)) (some dd) H') ∧
  (∀ F1 G1 h1 H1 Qa Ra (E' : XK) (Q' : VK), Same F F1 → SH T F1 G1 h1 H1 → act h1 Qa Ra →
    (∀ d h' v F' H', Same F1 F' → SH T F' G1 h' H' → Rep T F' d v → Qa d h' → Q' v H') →
    (∀ x h' F' H' dd v, Same F1 F' → SH T F' G1 h' H' → F' dd = some (.xd [(T.xf x.c, v)]) → Rep T F' x.v v → Ra x h' → E' (.ref (T.cA x.c)) (some dd) H') → tl E' H1 Q')
/-- the body of the def keeps the promise, wherever it is called -/
def GivesL (P : Program) (w : World) (T : Tb) (mg : Str → Option Value) (base : Heap) (k : Nat) (sp : HSpec) (N : List Str) (x : Str) (sg : Scope) (g : Addr) (cdg : Value) (bg : List Stmt) (a : Str) : Prop :=
  ∀ (A : Around) (outer : List PySem.Env) (f c' : Addr) (q : Str) (s : Shared) (H : Hp) (E : XK) (tl : XK → Hp → VK → Prop) (Q : VK), Room k (A.deeper (envOfC x sg s.heap.objs.size g cdg)) →
    (∀ (W : WX) (pn : List (Addr × Obj)) (xe : Value → Shared → Prop) (p1 p2 : Pos), Takes ((cxOf (L2.CX P w) P w T.K mg base N x sg g cdg A outer s H E).tr pn xe) W →
      PE ((cxOf (L2.CX P w) P w T.K mg base N x sg g cdg A outer s H E).tr pn xe) (.Call (.Name a p1) [] [] p2) (fun τ HZ Q => τ[0]? = some (some (.ref f)) ∧ HZ c' = some (LamX.CodeO c' q) ∧ tl (WE W τ) HZ Q)) →
    H c' = some (LamX.CodeO c' q) → promH T sp tl H Q E →
    ∃ t, PSs (cxOf (L2.CX P w) P w T.K mg base N x sg g cdg A outer s H E) bg t ∧ t { nx := fun _ H' => Q .non H', rt := Q } (L2.start N [.ref f]) H
/-- a def that is given a call -/
structure GoodH (P : Program) (w : World) (T : Tb) (mg : Str → Option Value) (base : Heap) (k : Nat) (n : Nat) (sp : HSpec) : Prop where
  ex : ∃ (x a : Str) (params : Arguments) (bg : List Stmt) (sg : Scope) (fd : FuncData) (N : List Str), FunD T.K x x params bg sg [] [] (T.fA n) fd ∧ FnScope N [a] sg ∧ N[0]? = some a ∧ Vis sg a ∧ (a == ("__debug__" : Str)) = false ∧ (a == ("__classdict__" : Str)) = false ∧
    Binds T.K fd [a] [] ∧ ∀ cdv, GivesL P w T mg base k sp N x sg (T.fA n) cdv bg a
theorem GoodH.mono {P : Program} {w : World} {T : Tb} {mg : Str → Option Value} {base : Heap} {j k n : Nat} {sp : HSpec} (g : GoodH P w T mg base j n sp) (h : j ≤ k) : GoodH P w T mg base k n sp := by
  obtain ⟨x, a, params, bg, sg, fd, N, h1, h2, h3, h4, h5, h6, h7, h8⟩ := g.ex
  exact ⟨x, a, params, bg, sg, fd, N, h1, h2, h3, h4, h5, h6, h7, fun cdv A outer f c' q s H E tl Q r => h8 cdv A outer f c' q s H E tl Q (r.mono h)⟩
section
variable {X : Cx} {T : Tb} {RR : RRt} {pins : List (Addr × Obj)} {σ : L2.St} {H : Hp} {s : Shared}
/-- the call of what was given, in the def's frame: what is let out is told of the def's own names -/
theorem act_go {CXg : CXT} {Eg : XK} {Ng : List Str} {qg : Str} {sg : Scope} {g f c' : Addr} {cdg pm ctv : Value} {params : Arguments} {body : Expr} {scope : Scope} {k : Nat} {a : Str} {pn : List (Addr × Obj)} {xe : Value → Shared → Prop} {W : WX} {tb : XK → TE} {p1 p2 : Pos}
    (I : Inv X pins σ H s) (L : LamX.LamS X.env.scope scope)
    (hf : s.heap.get? f = some (PySem.W.kla_obj "<lambda>" (X.env.qual ++ "<lambda>") params body scope (cloFrom X.env.cells scope.names []) pm c' ctv)) (hfn : H f = none)
    (hfr : f ∉ frs X.stack) (hbind : bindArgs (PySem.W.kla_fn "<lambda>" (X.env.qual ++ "<lambda>") params body scope (cloFrom X.env.cells scope.names []) pm (.ref c') ctv) ⟨[], []⟩ = pure [])
    (tk : Takes ((cxOf CXg X.prog X.w X.K X.mg X.base Ng qg sg g cdg X.A X.stack s H Eg).tr pn xe) W) (hr : Room (k + 1) (X.A.deeper (envOfC qg sg s.heap.objs.size g cdg)))
    (hbody : ∀ (E : XK) (A : Around) (outer : List PySem.Env) (s : Shared) (H : Hp), Room k (A.deeper (LamX.lamEnv X scope s.heap.objs.size f c')) → PE (LamX.lamCx X A outer s H E scope f c') body (tb E))
    (hN : Ng[0]? = some a) (hv : Vis sg a) (hd : (a == ("__debug__" : Str)) = false) (hcd : (a == ("__classdict__" : Str)) = false) :
    PE ((cxOf CXg X.prog X.w X.K X.mg X.base Ng qg sg g cdg X.A X.stack s H Eg).tr pn xe) (.Call (.Name a p1) [] [] p2) (fun τ HZ Q => τ[0]? = some (some (.ref f)) ∧ HZ c' = some (LamX.CodeO c' (X.env.qual ++ "<lambda>")) ∧ tb (WE W τ) σ HZ Q) := by
  constructor
  rintro pinsZ sZ τ HZ Q IZ ⟨hs, hc, ht⟩
  have nm := (pe_var (X := (cxOf CXg X.prog X.w X.K X.mg X.base Ng qg sg g cdg X.A X.stack s H Eg).tr pn xe) (pos := p1) (i := 0) hN hv hd hcd).run pinsZ sZ τ HZ (fun v H1 => v = .ref f ∧ H1 = HZ) IZ ⟨.ref f, hs, rfl, rfl⟩
  refine wpAny_Call_Name_kw (thn nm ?_)
  rintro u s1 ⟨v, H1, I1, r1, rfl, rfl⟩
  cases (show u = Value.ref f from r1)
  have of1 := I1.base.keep f _ hf hfn hfr (fun z => nomatch (show f ∈ ([] : List Addr) from z))
  refine PySem.W.callWith_F0 ⟨_, _, _, _, of1⟩ ?_
  obtain ⟨⟨oc, vs, t, hoc, hdc, hvc⟩, _, _⟩ := I1.hok c' _ hc
  let ev := envOfC qg sg s.heap.objs.size g cdg
  have rc : codeAny (model X.prog X.w) (X.A.deeper ev) (.call (.ref f) ⟨[], []⟩) (CR (L2.CX X.prog X.w) (ev :: X.stack) X.prog X.w H1 s1 Q (WE W τ)) s1 := by
    refine PySem.W.kla_callFunE hr.depth of1 rfl L.co L.gen rfl ⟨c', oc, vs, t, rfl, hoc, hdc, hvc⟩ ?_
    rw [hbind]
    refine wpAny_pure (wpAny_newFunctionEnv (fun y hy => (L.own y hy).2) (fun y hy => absurd hy (by simp)) (fun h₁ hns hsb => ⟨I1.nolimit.fresh _ hsb, ?_⟩) L.kind)
    have kp : ∀ b o, s1.heap.get? b = some o → h₁.get? b = some o := fun b o e => hsb.extBut b o (Nat.ne_of_lt (Heap.lt_size e)) (Heap.get?_push_of_some _ e)
    have un : Un (frs X.stack) [] H H1 s.heap s1.heap := I1.base
    have J := LamX.lam_start2 (A := X.A.deeper ev) (outer := ev :: X.stack) (E := WE W τ) (f := f) (c' := c') (tk := s1.toks + ([] : List (Str × Value)).length) I L I1.env0 hr.hd un hns kp
    refine PySem.W.kla_codeExpr (wpAny_mono ((hbody (WE W τ) _ _ s1 H1 (hr.deeper _)).run [] _ _ H1 Q J ht) ?_ fun e s' hq => hq)
    rintro v s' ⟨w', H', J', rv, q⟩
    exact ⟨w', H', J'.os, J'.bare, J'.base, J'.hok, rv, q⟩
  refine wpAny_call (codeAny_mono rc fun r s' hq => ?_)
  cases r with
  | error e => exact passAt tk τ pinsZ H1 s1 e s' I1 hq
  | ok fl =>
    cases fl with
    | ret u => exact I1.after hq
    | next => exact False.elim hq
    | brk => exact False.elim hq
    | cont => exact False.elim hq
theorem pe_ex {α : Type} {X : Cx} {e : Expr} {t : α → TE} (h : ∀ a, PE X e (t a)) : PE X e (fun τ H Q => ∃ a, t a τ H Q) := ⟨fun pins s τ H Q I ⟨a, q⟩ => (h a).run pins s τ H Q I q⟩
/-- what was given may be called here -/
def ActOk (T : Tb) (Γ : Gam) (X : Cx) (RR : RRt) : Prop := ∀ (x : Str) (p1 p2 : Pos), X.N[0]? = some x → PE X (.Call (.Name x p1) [] [] p2) (LE T X RR (wpE Γ (.act 0)))
/-- from a state to the same one within the lambda -/
theorem lam_in {Γ : Gam} {e : E} {F F1 G G' : Hp} {σa : Env} {h h1 : AH} {τ : L2.St} {H H1 : Hp} {lk : Lk} {Qa : QE} {Ra : RE} {E' : XK} {Q' : VK} {X' : Cx} (hpn : X'.pn = []) (sr : SR T lk F G σa h τ H) (s1 : Same F F1) (sh : SH T F1 G' h1 H1) (w : wpE Γ e σa.nox h1 Qa Ra)
    (kq : ∀ d h' v F' H', Same F1 F' → SH T F' G' h' H' → Rep T F' d v → Qa d h' → Q' v H')
    (kr : ∀ x h' F' H' dd v, Same F1 F' → SH T F' G' h' H' → F' dd = some (.xd [(T.xf x.c, v)]) → Rep T F' x.v v → Ra x h' → E' (.ref (T.cA x.c)) (some dd) H') :
    (∀ cls d τ' H', WR T X' ⟨F1, G', fun x _ h => Ra x h⟩ cls d τ' H' → E' cls d H') ∧ LE T X' ⟨F1, G', fun x _ h => Ra x h⟩ (wpE Γ e) τ H1 Q' := by
  refine ⟨?_, F1, G', σa.nox, h1, Qa, ?_, w, ?_⟩
  · rintro cls d τ' H' ⟨F2, G2, σ2, h2, x, dd, v, rfl, rfl, sr2, e1, rv, q⟩
    have eG : G2 = G' := sr2.lG
    subst eG
    exact kr x h2 F2 H' dd v sr2.lF sr2.sh e1 rv q
  · have q := sr.nox (pn' := []) s1 sh
    refine ⟨?_, Same.refl _, rfl⟩
    have z : (RRt.lk ⟨F1, G', fun x _ h => Ra x h⟩ X').pn = [] := hpn
    rw [z]
    exact q.s
  · exact fun d h' v F' H' s sr' r q => kq d h' v F' H' s sr'.sh r q
theorem le_lamc {Γ : Gam} {k n : Nat} {e : E} {x : Str} {body : Expr} {scope : Scope} {c P : Addr} {p lpos pos : Pos} (hK : X.K = T.K) (g : GoodH X.prog X.w T X.mg X.base (k + 1) n (Γ.hf n)) (hr : Room (k + 2) X.A) (hg : Gl X x) (hm : X.mg x = some (.ref (T.fA n)))
    (tk : Takes X (WR T X RR)) (hdb : (x == ("__debug__" : Str)) = false) (TB : LamX.TabB X.base X.mg c P) (hcode : X.env.code = .ref c) (hmT : (P, X.env.qual ++ "<lambda>") ∈ T.lam) (hu : ∀ p ∈ T.lam, p.1 = P → p.2 = X.env.qual ++ "<lambda>") (L : LamX.LamS X.env.scope scope)
    (hbody : ∀ (A : Around) (outer : List PySem.Env) (s : Shared) (H : Hp) (E' : XK) (f c' : Addr) (R2 : RRt), Room k (A.deeper (LamX.lamEnv X scope s.heap.objs.size f c')) → Takes (LamX.lamCx X A outer s H E' scope f c') (WR T (LamX.lamCx X A outer s H E' scope f c') R2) →
      PE (LamX.lamCx X A outer s H E' scope f c') body (LE T (LamX.lamCx X A outer s H E' scope f c') R2 (wpE Γ e))) :
    PE X (.Call (.Name x p) [.Lambda ⟨[], [], none, [], [], none, []⟩ body scope lpos] [] pos) (LE T X RR (wpE Γ (.lamc n e))) := by
  obtain ⟨y, a, params, bg, sg, fd, N, FD, Sg, hN, hva, hd, hcd, hb, hG⟩ := g.ex
  obtain ⟨oc, od, dV, kV, doc, pm, an, cdv, ct, osl, rfl, lk, hcg, _, _⟩ := FD.ex
  have FD' := FD
  rw [← hK] at lk hcg hb FD'
  constructor
  rintro pins s τ H Q I ⟨F0, G, σa, h, Qd, sr, w, kk⟩
  refine wpAny_Call_Name_kw (ld_glob I hg hm ?_ hdb)
  refine PySem.W.callWith_K (h₀ := X.base) I.ok.mod.kin FD'.kp ?_ (by rfl) (by rfl)
  show wpAny _ _ (spliced ((false, eval (.Lambda ⟨[], [], none, [], [], none, []⟩ body scope lpos) X.env) :: backTo pos (starEach [] X.env))) _ _ s
  refine Calls.spliced_cons (LamX.lam_make2 (T := T.lam) I TB hcode hmT hu sr.sh.tb.tabs rfl (L.has I.ok) ?_)
  intro f c' pm' ctv H1 s' I1 eN T1 hf hfn hfr hco
  refine Calls.spliced_nil ⟨I1.kIn, ?_⟩
  obtain ⟨G', sh0, back⟩ := sr.call
  have sh1 := sh0.tabs eN T1
  let tl : XK → Hp → VK → Prop := fun E' HZ Q' => ∃ R2 : {R2 : RRt // ∀ cls d (τ' : L2.St) H', (∃ F G σ h x dd v, cls = .ref (T.cA x.c) ∧ d = some dd ∧ SR T ⟨[], R2.F0, R2.G0⟩ F G σ h τ' H' ∧ F dd = some (.xd [(T.xf x.c, v)]) ∧ Rep T F x.v v ∧ R2.R x σ h) → E' cls d H'},
    LE T { X with pn := [] } R2.1 (wpE Γ e) τ HZ Q'
  have pr : promH T (Γ.hf n) tl H1 Q (WE (WR T X RR) τ) := by
    refine ⟨F0, G', h, _, Qd, _, sh1, w, fun d h' v F' H' s sh' rv q => kk d h' v F' H' s (back F' h' H' s sh') rv q, fun x h' F' H' dd v s sh' e rv q => ?_, fun F1 G1 h1 H2 Qa Ra E' Q' s1 sh w1 kq kr => ?_⟩
    · exact ⟨F', G, σa, h', x, dd, v, rfl, rfl, back F' h' H' s sh', e, rv, q⟩
    · obtain ⟨a1, a2⟩ := lam_in (X' := { X with pn := [] }) rfl sr s1 sh w1 kq kr
      exact ⟨⟨⟨F1, G1, fun x _ h => Ra x h⟩, a1⟩, a2⟩
  have rc : codeAny (model X.prog X.w) X.A (.call (.ref (T.fA n)) ⟨[.ref f], []⟩) (CR (L2.CX X.prog X.w) X.stack X.prog X.w H1 s' Q (WE (WR T X RR) τ)) s' := by
    refine LamX.run_ofS (N := N) (ps := [a]) (us := [.ref f]) (vs := [.ref f]) lk hcg Sg hr I1.env0 (hb s' [.ref f] I1.kIn rfl) (.cons rfl .nil) rfl fun hr' => ?_
    have gv := hG cdv X.A X.stack f c' (X.env.qual ++ "<lambda>") s' H1 (WE (WR T X RR) τ) tl Q hr'
    rw [← hK] at gv
    refine gv (fun W pn xe p1 p2 tkW => ?_) hco pr
    refine act_go (tb := fun E' σ HZ Q' => ∃ R2 : {R2 : RRt // ∀ cls d (τ' : L2.St) H', (∃ F G σ h x dd v, cls = .ref (T.cA x.c) ∧ d = some dd ∧ SR T ⟨[], R2.F0, R2.G0⟩ F G σ h τ' H' ∧ F dd = some (.xd [(T.xf x.c, v)]) ∧ Rep T F x.v v ∧ R2.R x σ h) → E' cls d H'}, LE T { X with pn := [] } R2.1 (wpE Γ e) σ HZ Q')
      I1 L hf hfn hfr rfl tkW hr' (fun E' A outer s H hr2 => ?_) hN hva hd hcd
    refine pe_ex fun R2 => ?_
    refine PE.imp (hbody A outer s H E' f c' R2.1 hr2 ?_) fun τ H Q z => z
    exact Takes.imp (takes_of (X := LamX.lamCx X A outer s H E' scope f c') (E := E') rfl rfl rfl rfl) fun cls d τ' H' q => R2.2 cls d τ' H' q
  refine wpAny_call (codeAny_mono rc fun r s2 hq => ?_)
  cases r with
  | error e => exact passAt tk τ pins H1 s' e s2 I1 hq
  | ok fl =>
    cases fl with
    | ret u => exact I1.after hq
    | next => exact False.elim hq
    | brk => exact False.elim hq
    | cont => exact False.elim hq
end
end FF
namespace FF
open PySem PySem.Spec PyProof.Rows L2
section
variable {P : Program} {w : World} {A : Around} {E : Value → Shared → Prop} {s : Shared}
set_option maxHeartbeats 3200000 in
theorem call_set_lstI {l : Addr} {items : Array Value} (ns : List Int) {Q : Value → Shared → Prop} (hh : A.handled = none) (hl : s.heap.IsList l items) (hit : IntsAre items.toList ns) (hb : ns.length + 1 < scanBound)
    (h : ∀ (h' : Heap) (tk c : Nat), SetR w h' s.heap.objs.size (fun j => decide (j ∈ ns)) c → c ≤ ns.length → (∀ b o, s.heap.get? b = some o → h'.get? b = some o) → Q (.ref s.heap.objs.size) { s with heap := h', toks := tk }) :
    wpAny (model P w) A (call (.type "set") [.ref l]) Q E s := by
  have hisz : items.size = ns.length := by
    have q := IntsAre.length hit
    rw [Array.length_toList] at q
    exact q
  obtain ⟨c, tl, hmro⟩ := F.called_set.mro
  have hmade := F.called_set.made
  have hsub := F.called_set.sub
  refine wpAny_call (codeAny_of_tree ?_)
  show wpAny _ _ (callAny (.type "set") _) _ _ _
  refine wpAny_pure ⟨Code.quiet_builtin _ (by decide +kernel), codeAny_builtin F.entry_type_call ?_⟩
  rw [Around.under_plain (weight_type_call_type "set" [.ref l] []) rfl]
  have h1 := F.called_set.notType
  have h2 := F.called_set.canCreate
  have hct := F.typeCall_set_1 (.ref l)
  repeat (any_goals (first | assumption | wp_step))

  refine codeAny_mono (code_set_led1 (.ref l) (E := E) (Q₁ := fun obj s₁ => obj = .ref s.heap.objs.size ∧ s₁ = { s with heap := s.heap.push { cls := .type "set", dict := none, data := .set #[] 0 (.fresh 0 0 (!w.params.followText "set-order")) } }) ⟨rfl, rfl⟩) fun r s₁ hr => ?_
  cases r with
  | error e => exact hr
  | ok fl =>
    cases fl with
    | ret obj =>
      obtain ⟨rfl, rfl⟩ := hr
      have hS : (s.heap.push { cls := .type "set", dict := none, data := .set #[] 0 (.fresh 0 0 (!w.params.followText "set-order")) }).get? s.heap.objs.size = some { cls := .type "set", dict := none, data := .set #[] 0 (.fresh 0 0 (!w.params.followText "set-order")) } := Heap.get?_push_size _ rfl
      have hT : Shared.TypeIs { s with heap := s.heap.push { cls := .type "set", dict := none, data := .set #[] 0 (.fresh 0 0 (!w.params.followText "set-order")) } } (.ref s.heap.objs.size) "set" := ⟨_, hS, rfl⟩
      have hli := F.called_set.init.lookup
      have hbi := F.called_set.init.bind (.ref s.heap.objs.size)
      repeat (any_goals (first | assumption | wp_step))

      refine codeAny_mono (codeAny_call_builtin (R := wants (fun r s₂ => r = .none ∧ ∃ h' tk c, s₂ = { s with heap := h', toks := tk } ∧ SetR w h' s.heap.objs.size (fun j => decide (j ∈ ns)) c ∧ c ≤ ns.length ∧
          (∀ b o, s.heap.get? b = some o → h'.get? b = some o)) E) F.called_set.init.plain F.entry_set_init (check_set_init_1 hT ?_)) fun r₂ s₂ hr₂ => ?_
      · obtain ⟨ol, hol, hcl, nl, hdl⟩ := hl
        obtain ⟨ocls, odict, odata, oslots⟩ := ol
        simp only at hcl hdl
        subst hcl; subst hdl
        have hol' : (s.heap.push { cls := .type "set", dict := none, data := .set #[] 0 (.fresh 0 0 (!w.params.followText "set-order")) }).get? l = some { cls := .type "list", dict := odict, data := .seq items nl, slots := oslots } := Heap.get?_push_of_some _ hol
        have hsls := F.sub_list_set
        have hslf := F.sub_list_frozenset
        have hne : (Value.type "list" == Value.type "dict") = false := by decide
        have hl1 : (s.heap.push { cls := .type "set", dict := none, data := .set #[] 0 (.fresh 0 0 (!w.params.followText "set-order")) }).IsList l items := ⟨_, hol', rfl, nl, rfl⟩
        unfold Builtin.«set.__init__» noKeywords Builtin.Frozenset.updateFrom
        generalize hPI : pyIter = PI
        wp_walk
        subst hPI

        refine wpAny_pyIter_list hl1 ?_
        refine wpAny_bind (wpAny_runValue ?_)
        have hlS : l < s.heap.objs.size := Heap.lt_size hol
        have hh3 : A.in1.in1.in1.handled = none := by simp [hh]
        have hz1 : (s.heap.push { cls := .type "set", dict := none, data := .set #[] 0 (.fresh 0 0 (!w.params.followText "set-order")) }).objs.size = s.heap.objs.size + 1 := Heap.size_push ..
        have hneI : l ≠ (s.heap.push { cls := .type "set", dict := none, data := .set #[] 0 (.fresh 0 0 (!w.params.followText "set-order")) }).objs.size := by
          rw [Heap.size_push]; exact Nat.ne_of_lt (Nat.lt_succ_of_lt hlS)
        have hSf : s.heap.objs.size ∉ [(s.heap.push { cls := .type "set", dict := none, data := .set #[] 0 (.fresh 0 0 (!w.params.followText "set-order")) }).objs.size, l] := by
          rw [Heap.size_push]; simp only [List.mem_cons, List.mem_singleton, List.not_mem_nil, or_false, not_or]
          exact ⟨Nat.ne_of_lt (Nat.lt_succ_self _), Nat.ne_of_gt hlS⟩
        have hval : ∀ (i : Nat) (v : Value), items[i]? = some v → ∃ k t, ns[i]? = some k ∧ v = .int k t := fun i v hv => by
          have hi : i < ns.length := by rw [← hisz]; exact (Array.getElem?_eq_some_iff.mp hv).1
          obtain ⟨t, e⟩ := PyProof.Rows.IntsAre.int_at hit i v (by rw [Array.getElem?_toList]; exact hv)
          refine ⟨ns[i], t, List.getElem?_eq_getElem hi, ?_⟩
          rw [e, List.getD_eq_getElem?_getD, List.getElem?_eq_getElem hi] <;> rfl
        refine set_update_ints ((Walks.list hh3 _ l hneI items).toS) s.heap.objs.size
          hSf ns hisz hb hval (items.size - 0) 0 _ (by omega) (Nat.zero_le _)
          ⟨⟨_, Heap.get?_push_size _ rfl, rfl, rfl⟩, (hl1.push _)⟩ ?hS0 ?hR
        case hS0 =>
          have hget : ((s.heap.push { cls := .type "set", dict := none, data := .set #[] 0 (.fresh 0 0 (!w.params.followText "set-order")) }).push { cls := .type "list_iterator", data := .fields #[.ref l, .int 0 0] }).get? s.heap.objs.size
              = some { cls := .type "set", dict := none, data := .set #[] 0 (.fresh 0 0 (!w.params.followText "set-order")) } := Heap.get?_push_of_some _ hS
          exact ⟨0, Nat.le_refl 0, setR_new_at hget⟩
        case hR =>
          intro s' c' hm hc' hS'
          obtain ⟨h', g2, d', tk', os'⟩ := s'
          have eg : g2 = s.gens := hm.gens
          have ed : d' = s.drawn := hm.drawn
          have eo : os' = s.os := hm.os
          subst eg; subst ed; subst eo
          show wpAny _ _ _ _ _ _
          refine wpAny_pure ?_
          show wpAny _ _ (ret Value.none) _ _ _
          rw [hisz] at hc'
          refine wpAny_pure ⟨rfl, h', tk', c', rfl, hS', hc', fun b o e => ?_⟩
          have hb0 : b < s.heap.objs.size := Heap.lt_size e
          have hb1 : b ≠ s.heap.objs.size := Nat.ne_of_lt hb0
          have hb2 : b ≠ (s.heap.push { cls := .type "set", dict := none, data := .set #[] 0 (.fresh 0 0 (!w.params.followText "set-order")) }).objs.size := by
            rw [Heap.size_push]; exact Nat.ne_of_lt (Nat.lt_succ_of_lt hb0)
          exact hm.heap b o (by simp only [List.mem_cons, List.mem_singleton, List.not_mem_nil, or_false, not_or]; exact ⟨hb1, hb2⟩) (Heap.get?_push_of_some _ (Heap.get?_push_of_some _ e))

      · cases r₂ with
        | error e => exact hr₂
        | ok fl₂ =>
          cases fl₂ with
          | ret r =>
            obtain ⟨rfl, h', tk, c', rfl, hS', hc', hk'⟩ := hr₂
            repeat (any_goals (first | assumption | wp_step))
            exact h _ _ _ hS' hc' hk'
          | _ => exact hr₂.elim
    | _ => exact hr.elim
end
section
variable {P : Program} {w : World} {A : Around} {E : Value → Shared → Prop} {s : Shared} {a : Addr}
set_option maxHeartbeats 4000000 in
/-- sorted(found), found a set of ints of any size below the scan's line -/
theorem sort_setB {S : Int → Bool} {n : Nat} {Q : Value → Shared → Prop} (R : SetR w s.heap a S n) (hh : A.handled = none) (hn2 : n < 2000)
    (k : ∀ t q (os : Array Value) (c : Nat) (ms : List Int), (∀ b o, s.heap.get? b = some o → t.heap.get? b = some o) → t.gens = s.gens → t.os = s.os → s.heap.objs.size ≤ q →
      t.heap.get? q = some (seqObj "list" os c) → IntsAre os.toList ms → ms.Pairwise (· < ·) → (∀ x, x ∈ ms ↔ S x = true) → ms.length = n → Q (.ref q) t) :
    wpAny (model P w) A (call (.builtin "sorted") [.ref a]) Q E s := by
  obtain ⟨ob, es, ep, tb, hob, hcl, hda, gg, nd, mem, bd, ft, cnt, rr, lk⟩ := R
  refine Calls.call_function_entry kind_sorted plain_sorted entry_sorted (args_sorted1 _) ?_
  unfold Builtin.«sorted»
  refine wpAny_bind (m := checkCount "sorted" 1 1 _) (wpAny_pure ?_)
  refine wpAny_bind (collect_set (A := A.in1) hh ⟨ob, hob, hcl.1, hda⟩ ft bd rr lk fun t us keep sz gs oo perm => ?_)
  have ul : us.length = n := perm.length_eq.trans (by rw [List.length_map, Array.length_toList]; exact cnt)
  have ia : IntsAre us (us.map Builtin.Re.reRawOf) := ints_of us fun u hu => by
    obtain ⟨x, hx, rfl⟩ := List.mem_map.mp (perm.mem_iff.mp hu)
    obtain ⟨i, tk, ex, _⟩ := gg x hx
    exact ⟨i, tk, ex⟩
  have pk : (us.map Builtin.Re.reRawOf).Perm (es.toList.map keyOf) := by
    have z := perm.map Builtin.Re.reRawOf
    rwa [List.map_map] at z
  have small : us.length ≤ sizeLine := by rw [ul, sizeLine_eq]; omega
  refine wpAny_bind (wpAny_newList ?_ small)
  have at0 : (t.heap.push (seqObj "list" us.toArray 0)).get? t.heap.objs.size = some (seqObj "list" us.toArray 0) := Heap.get?_push_size _ rfl
  refine wpAny_bind (wpAny_holding (wpAny_call_entry slot_list_sort ⟨_, at0, rfl⟩ entry_list_sort (list_sort_treeAny at0 ia small fun os ms b1 b2 b3 => ⟨_, rfl, ?_⟩) (args_list_sort _)))
  obtain ⟨c, there⟩ := sortedHeap_at (vs := us) (out := os) at0
  have pm : ms.Perm (es.toList.map keyOf) := b2.trans pk
  refine wpAny_pure ⟨_, rfl, k _ t.heap.objs.size os c ms (fun b o e => ?_) gs oo sz there b1 (lt_of_le_nodup ms b3 (pm.nodup_iff.mpr nd)) (fun x => by rw [pm.mem_iff, ← mem x]) (by rw [pm.length_eq, List.length_map, Array.length_toList]; exact cnt)⟩
  have e1 := keep b o e
  have lt := Heap.lt_size e1
  exact (sortedHeap_old (Nat.ne_of_lt lt) (by rw [size_push']; exact Nat.lt_succ_of_lt lt)).trans (Heap.get?_push_of_some _ e1)
end
section
variable {X : Cx}
def rSortSet (w : World) : List V → Hp → VK → Prop := fun vs H Q => ∃ (a : Addr) (S : Int → Bool) (n : Nat), vs = [V.ref a] ∧ H a = some (SetO w a S n) ∧ n < 2000 ∧
  ∀ (ms : List Int) (q : Addr), ms.Pairwise (· < ·) → (∀ k : Int, k ∈ ms ↔ S k = true) → ms.length = n → H q = none → Q (.ref q) (upd H q (.lst (ms.map V.int)))
theorem cr_sortSet (hc : X.calm = true) : CallR X (.builtin "sorted") (rSortSet X.w) := by
  intro pins s σ H vs us Q I r h
  obtain ⟨a, S, n, rfl, ha, hn, kk⟩ := h
  have R := setO_get I ha
  rw [Vals.ref1 r]
  refine sort_setB R (I.ok.hd hc) hn fun t q os c ms keep gs oo hq there ia pw mem len => ?_
  have l1 : (ms.map V.int).length ≤ sizeLine := by rw [List.length_map, len, sizeLine_eq]; omega
  have fresh : H q = none := I.hok.fresh hq
  obtain ⟨hp', gn, dr, tk, os'⟩ := t
  cases gs
  cases oo
  have J : Inv X pins σ (upd H q (.lst (ms.map V.int))) { s with heap := hp', gens := s.gens, drawn := dr, toks := tk } :=
    I.call (ch := []) (Un.laid keep hq fresh) (I.hok.laid keep hq ⟨l1, os.toList, c, vals_of_ints ia, there⟩) I.bare (fun _ z => nomatch z)
  exact ⟨.ref q, _, J, rfl, kk ms q pw mem len fresh⟩
end
section
variable {X : Cx}
/-- set(xs), xs a list of fewer than 2000 ints -/
def rSetLst (X : Cx) : List V → Hp → VK → Prop := fun xs H Q => ∃ (a : Addr) (ns : List Int), xs = [.ref a] ∧ SqL X.K H a (ns.map V.int) ∧ ns.length < 2000 ∧ ∀ p n, H p = none → n ≤ ns.length → Q (.ref p) (upd H p (SetO X.w p (fun j => decide (j ∈ ns)) n))
theorem cr_setLst (hc : X.calm = true) : CallR X (.type "set") (rSetLst X) := by
  intro pins s σ H xs us Q I r h
  obtain ⟨a, ns, rfl, hs, h64, q⟩ := h
  obtain ⟨its, rv, hl, hz⟩ := I.list hs
  rw [Vals.ref1 r]
  refine call_set_lstI ns (I.ok.hd hc) hl.isList (by simpa using rv.ints) (by unfold scanBound; omega) fun h' tk c R hle hk => ?_
  exact ⟨.ref _, upd H s.heap.objs.size (SetO X.w s.heap.objs.size (fun j => decide (j ∈ ns)) c), I.laid (t' := tk) (fun b u e => hk b u e) (Nat.le_refl _) (setO_new R), rfl, q _ _ (I.hok.fresh (Nat.le_refl _)) hle⟩
variable {T : Tb} {RR : RRt}
theorem boot_setF : bootBuiltins ("set" : Str) = some (.type "set") := by decide +kernel
theorem boot_sortedT : bootBuiltins ("sorted" : Str) = some (.builtin "sorted") := by decide +kernel
theorem le_sset {Γ : Gam} {a : E} {e : Expr} {p p2 p3 pos : Pos} (hK : X.K = T.K) (hc : X.calm = true) (hg : Gl X "sorted") (hm : X.mg "sorted" = none) (hg2 : Gl X "set") (hm2 : X.mg "set" = none) (hs : noStar e = true) (ha : PE X e (LE T X RR (wpE Γ a))) :
    PE X (.Call (.Name "sorted" p) [.Call (.Name "set" p2) [e] [] p3] [] pos) (LE T X RR (wpE Γ (.sset a))) := by
  have hA := pa_cons ha pa_nil (star_cons hs)
  have h1 := pe_callTy (p := p2) (pos := p3) (cr_setLst hc) hg2 hm2 boot_setF hA (by decide) (by decide) (star_cons hs) rfl
  refine PE.imp (pe_callB (cr_sortSet hc) hg hm boot_sortedT (pa_cons h1 pa_nil (star_cons (e := .Call (.Name "set" p2) [e] [] p3) rfl)) (by decide) (by decide) (star_cons (e := .Call (.Name "set" p2) [e] [] p3) rfl) rfl) fun τ H Q ⟨F, G, σ, h, Qd, sr, w, k⟩ => ⟨F, G, σ, h, _, sr, w, fun d h1 v F1 H1 s1 sr1 r1 w1 => ?_⟩
  obtain ⟨b, ns, rfl, q1, q2, q3⟩ := of_asL_ints (P := fun ns => ns.length < 2000 ∧ ∀ ms : List Int, ms.Pairwise (· < ·) → (∀ k, k ∈ ms ↔ k ∈ ns) → Qd (.lst (ms.map .int)) h1) hK sr1.sh r1 w1
  refine ⟨b, ns, rfl, q1, q2, fun p n hp hn => ⟨p, _, n, rfl, upd_same, by omega, fun ms p' m1 m2 m3 hp' => ?_⟩⟩
  have g := Grow.new (o := SetO X.w p (fun j => decide (j ∈ ns)) n) sr1.sh.sF hp (fun _ z => by cases z)
  have sr2 := sr1.grow g
  have g2 := Grow.new (o := .lst (ms.map V.int)) sr2.sh.sF hp'
  exact k _ h1 _ _ _ (s1.trans (g.f.trans g2.f)) (sr2.grow g2) (.lst (SqL.of upd_same) (Reps.ints' ms)) (q3 ms m1 fun k => by rw [m2, decide_eq_true_iff])
/-! ### xs[-2::-1], xs of at most three -/
theorem pick2 {a : List Value} (h : a.length ≤ 3) : slicePick a.toArray (some (-2)) none (some (-1)) = (a.dropLast.reverse).toArray := by
  match a, h with
  | [], _ => rfl
  | [_], _ => rfl
  | [x, y], _ =>
    have e : sliceRange (sliceBounds (some (-2)) none (some (-1)) 2).1 (sliceBounds (some (-2)) none (some (-1)) 2).2.1 (sliceBounds (some (-2)) none (some (-1)) 2).2.2 = [0] := by decide
    show ((sliceRange (sliceBounds (some (-2)) none (some (-1)) 2).1 (sliceBounds (some (-2)) none (some (-1)) 2).2.1 (sliceBounds (some (-2)) none (some (-1)) 2).2.2).filterMap ([x, y].toArray[·]?)).toArray = _
    rw [e]; rfl
  | [x, y, z], _ =>
    have e : sliceRange (sliceBounds (some (-2)) none (some (-1)) 3).1 (sliceBounds (some (-2)) none (some (-1)) 3).2.1 (sliceBounds (some (-2)) none (some (-1)) 3).2.2 = [1, 0] := by decide
    show ((sliceRange (sliceBounds (some (-2)) none (some (-1)) 3).1 (sliceBounds (some (-2)) none (some (-1)) 3).2.1 (sliceBounds (some (-2)) none (some (-1)) 3).2.2).filterMap ([x, y, z].toArray[·]?)).toArray = _
    rw [e]; rfl
theorem Vals.dropLast : ∀ {xs : List V} {us : List Value}, Vals xs us → Vals xs.dropLast us.dropLast
  | _, _, .nil => .nil
  | _, _, .cons r .nil => .nil
  | _, _, .cons r (.cons r2 t) => .cons r (Vals.dropLast (.cons r2 t))
def tRev2 (K : PySem.W.Frag) (te : TE) : TE := fun σ H Q => te σ H fun x H1 => ∃ a xs, x = .ref a ∧ SqL K H1 a xs ∧ xs.length ≤ 3 ∧ ∀ p, H1 p = none → Q (.ref p) (upd H1 p (.lst xs.dropLast.reverse))
theorem pe_rev2 {e : Expr} {te : TE} {k k2 : Nat} {p1 p2 p3 p4 p5 pos : Pos} (he : PE X e te) : PE X (.Subscript e (.Slice (some (.UnaryOp .USub (.Constant (.int 2) k2 p4) p5)) none (some (.UnaryOp .USub (.Constant (.int 1) k p1) p2)) p3) pos) (tRev2 X.K te) := by
  refine ⟨fun pins s σ H Q I h => ?_⟩
  refine Subscript_ (thn (he.run pins s σ H _ I h) fun v s1 ⟨x, H1, I1, r1, q1⟩ => ?_)
  obtain ⟨a, xs, ex, hx, h3, q⟩ := q1
  subst ex
  cases r1
  have hst : PO X (some (.UnaryOp .USub (.Constant (.int 1) k p1) p2)) (tPart (tUn (rU fun i => .int (-i)) (tC (.int 1)))) := po_some (pe_un un_neg pe_int)
  have hlo : PO X (some (.UnaryOp .USub (.Constant (.int 2) k2 p4) p5)) (tPart (tUn (rU fun i => .int (-i)) (tC (.int 2)))) := po_some (pe_un un_neg pe_int)
  refine wpAny_Slice (thn (hlo.run pins s1 σ H1 (fun o H2 => o = some (-2) ∧ H2 = H1) I1 ⟨2, rfl, -2, rfl, rfl, rfl⟩) fun vl s2 ⟨l, H2, I2, pl, el, e2⟩ => ?_)
  subst el e2
  refine thn (po_none.run pins s2 σ H2 (fun o H3 => o = none ∧ H3 = H2) I2 ⟨rfl, rfl⟩) fun vu s3 ⟨u, H3, I3, pu, eu, e3⟩ => ?_
  subst eu e3
  refine thn (hst.run pins s3 σ H3 (fun o H4 => o = some (-1) ∧ H4 = H3) I3 ⟨1, rfl, -1, rfl, rfl, rfl⟩) fun vs s4 ⟨o, H4, I4, ps, eo, e4⟩ => ?_
  subst eo e4
  have I5 : Inv X pins σ H4 { s4 with heap := s4.heap.push { cls := .type "slice", data := .fields #[vl, vu, vs] } } := I4.kept (t' := s4.toks) fun b ob q => Heap.get?_push_of_some _ q
  obtain ⟨its, r, ht, hz⟩ := I5.list hx
  have hlen := r.length
  show wpAny (model X.prog X.w) X.A (subscriptTail e (.Slice (some (.UnaryOp .USub (.Constant (.int 2) k2 p4) p5)) none (some (.UnaryOp .USub (.Constant (.int 1) k p1) p2)) p3) (.ref a) (.ref s4.heap.objs.size)) (EP X pins σ Q) X.xe { s4 with heap := s4.heap.push { cls := .type "slice", data := .fields #[vl, vu, vs] } }
  refine tail_any (ops := [.ref a, .ref s4.heap.objs.size]) ht.isList.typeIs (PySem.slot_list_getitem.lookup) ?_ (by with_unfolding_all rfl)
  refine wpAny_getItem_list_slice ht.isList (Heap.IsSliceOf.new _ vl vu vs) pl pu ps (by decide) ?_ (by rw [List.size_toArray]; omega)
  rw [pick2 (by omega)]
  refine ⟨.ref _, _, I5.laid (t' := s4.toks) (o := .lst xs.dropLast.reverse) (fun b ob q => Heap.get?_push_of_some _ q) (Nat.le_refl _) ?_, rfl, q _ (I5.hok.fresh (Nat.le_refl _))⟩
  exact ⟨by rw [List.length_reverse, List.length_dropLast]; omega, _, 0, (Vals.dropLast r).reverse, Heap.get?_push_size _ rfl⟩
theorem Reps.dropLast {T : Tb} {F : Hp} : ∀ {xs : List D} {us : List V}, Reps T F xs us → Reps T F xs.dropLast us.dropLast
  | _, _, .nil => .nil
  | _, _, .cons r .nil => .nil
  | _, _, .cons r (.cons r2 t) => .cons r (Reps.dropLast (.cons r2 t))
theorem le_rev2 {Γ : Gam} {a : E} {e : Expr} {k k2 : Nat} {p1 p2 p3 p4 p5 pos : Pos} (hK : X.K = T.K) (ha : PE X e (LE T X RR (wpE Γ a))) : PE X (.Subscript e (.Slice (some (.UnaryOp .USub (.Constant (.int 2) k2 p4) p5)) none (some (.UnaryOp .USub (.Constant (.int 1) k p1) p2)) p3) pos) (LE T X RR (wpE Γ (.slRev2 a))) := by
  refine PE.imp (pe_rev2 ha) fun τ H Q ⟨F, G, σ, h, Qd, sr, w, kk⟩ => ⟨F, G, σ, h, _, sr, w, fun d h1 v F1 H1 s1 sr1 r1 w1 => ?_⟩
  obtain ⟨c, vs, l, rfl, sq, rl, w2⟩ := asL_of (P := fun l => l.length ≤ 3 ∧ Qd (.lst l.dropLast.reverse) h1) hK sr1 r1 w1
  refine ⟨c, vs, rfl, sq, by rw [← rl.length]; exact w2.1, fun p hp => ?_⟩
  have g := Grow.new (o := .lst vs.dropLast.reverse) sr1.sh.sF hp
  exact kk _ h1 _ _ _ (s1.trans g.f) (sr1.grow g) (.lst (SqL.of upd_same) ((Reps.dropLast rl).reverse.mono g.f)) w2.2
end
end FF
namespace FF
open PySem PySem.Spec PyProof.Rows L2
section
variable {X : Cx} {T : Tb} {RR : RRt}
/-! ### list(range(..)) -/
theorem Reps.intsF {T : Tb} {F : Hp} (a : Int) : ∀ (l : List Nat), Reps T F (l.map fun (i : Nat) => D.int (a + i)) (l.map fun (i : Nat) => V.int (a + i))
  | [] => .nil
  | _ :: r => .cons .int (Reps.intsF a r)
theorem Reps.rng {T : Tb} {F : Hp} (a b : Int) : Reps T F (rangeL a (b - a).toNat) (rgV a b) := Reps.intsF a _
theorem le_rrng1 {Γ : Gam} {b : E} {e : Expr} {p p2 p3 pos : Pos} (hK : X.K = T.K) (hc : X.calm = true) (hg : Gl X "list") (hm : X.mg "list" = none) (hg2 : Gl X "range") (hm2 : X.mg "range" = none) (hs : noStar e = true) (hb : PE X e (LE T X RR (wpE Γ b))) :
    PE X (.Call (.Name "list" p) [.Call (.Name "range" p2) [e] [] p3] [] pos) (LE T X RR (wpE Γ (.rrng1 b))) := by
  refine PE.imp (pe_listRg hc hg hm (prg_1 hg2 hm2 hb (star_cons hs)) (star_cons (e := .Call (.Name "range" p2) [e] [] p3) rfl)) fun τ H Q ⟨F, G, σ, h, Qd, sr, w, k⟩ => ⟨F, G, σ, h, _, sr, w, fun d h1 v F1 H1 s1 sr1 r1 w1 => ?_⟩
  cases r1 with
  | int =>
    rename_i j
    have w1 : (-(2 ^ 62) ≤ j ∧ j ≤ SL) ∧ (∀ a, h1 a = none → Qd (.ref a) (h1.put a (.lst (rangeL 0 j.toNat)))) := w1
    obtain ⟨⟨a1, a2⟩, w1⟩ := w1
    have a2 : j ≤ 16777216 := a2
    refine ⟨j, rfl, ⟨by decide, by decide, a1, by omega, by omega⟩, fun q hq => ?_⟩
    have rp := Reps.rng (T := T) (F := F1) 0 j
    rw [Int.sub_zero] at rp
    exact k _ _ _ F1 _ s1 (sr1.newcell (c := .lst (rangeL 0 j.toNat)) hq ⟨_, upd_same, rp⟩) .ref (w1 q (hfree sr1.sh hq))
  | _ => exact False.elim w1
theorem le_lrng1 {Γ : Gam} {b : E} {e : Expr} {p p2 p3 pos : Pos} (hK : X.K = T.K) (hc : X.calm = true) (hg : Gl X "list") (hm : X.mg "list" = none) (hg2 : Gl X "range") (hm2 : X.mg "range" = none) (hs : noStar e = true) (hb : PE X e (LE T X RR (wpE Γ b))) :
    PE X (.Call (.Name "list" p) [.Call (.Name "range" p2) [e] [] p3] [] pos) (LE T X RR (wpE Γ (.lrng1 b))) := by
  refine PE.imp (pe_listRg hc hg hm (prg_1 hg2 hm2 hb (star_cons hs)) (star_cons (e := .Call (.Name "range" p2) [e] [] p3) rfl)) fun τ H Q ⟨F, G, σ, h, Qd, sr, w, k⟩ => ⟨F, G, σ, h, _, sr, w, fun d h1 v F1 H1 s1 sr1 r1 w1 => ?_⟩
  cases r1 with
  | int =>
    rename_i j
    have w1 : (-(2 ^ 62) ≤ j ∧ j ≤ SL) ∧ Qd (.lst (rangeL 0 j.toNat)) h1 := w1
    obtain ⟨⟨a1, a2⟩, w1⟩ := w1
    have a2 : j ≤ 16777216 := a2
    refine ⟨j, rfl, ⟨by decide, by decide, a1, by omega, by omega⟩, fun q hq => ?_⟩
    have g := Grow.new (o := .lst (rgV 0 j)) sr1.sh.sF hq
    have rp := Reps.rng (T := T) (F := upd F1 q (.lst (rgV 0 j))) 0 j
    rw [Int.sub_zero] at rp
    exact k _ h1 _ _ _ (s1.trans g.f) (sr1.grow g) (.lst (SqL.of upd_same) rp) w1
  | _ => exact False.elim w1
theorem le_lrng2 {Γ : Gam} {a b : E} {e1 e2 : Expr} {p p2 p3 pos : Pos} (hK : X.K = T.K) (hc : X.calm = true) (hg : Gl X "list") (hm : X.mg "list" = none) (hg2 : Gl X "range") (hm2 : X.mg "range" = none) (hs1 : noStar e1 = true) (hs2 : noStar e2 = true) (ha : PE X e1 (LE T X RR (wpE Γ a))) (hb : PE X e2 (LE T X RR (wpE Γ b))) :
    PE X (.Call (.Name "list" p) [.Call (.Name "range" p2) [e1, e2] [] p3] [] pos) (LE T X RR (wpE Γ (.lrng2 a b))) := by
  refine PE.imp (pe_listRg hc hg hm (prg_2 hg2 hm2 ha hb (star_cons hs1) (star_cons hs2) (star_any (es := [e2]) (by rw [List.all_cons, hs2]; rfl))) (star_cons (e := .Call (.Name "range" p2) [e1, e2] [] p3) rfl)) fun τ H Q ⟨F, G, σ, h, Qd, sr, w, k⟩ => ⟨F, G, σ, h, _, sr, w, fun d1 h1 v1 F1 H1 s1 sr1 r1 w1 => ⟨F1, G, σ, h1, _, sr1, w1, fun d2 h2 v2 F2 H2 s2 sr2 r2 w2 => ?_⟩⟩
  cases r1 with
  | int =>
    cases r2 with
    | int =>
      rename_i i j
      have w2 : (okR3 i ∧ okR3 j ∧ j - i ≤ SL) ∧ Qd (.lst (rangeL i (j - i).toNat)) h2 := w2
      obtain ⟨⟨a1, a2, a3⟩, w2⟩ := w2
      have a3 : j - i ≤ 16777216 := a3
      refine ⟨i, j, rfl, rfl, ⟨a1.1, a1.2, a2.1, a2.2, by omega⟩, fun q hq => ?_⟩
      have g := Grow.new (o := .lst (rgV i j)) sr2.sh.sF hq
      exact k _ h2 _ _ _ (s1.trans (s2.trans g.f)) (sr2.grow g) (.lst (SqL.of upd_same) (Reps.rng i j)) w2
    | _ => exact False.elim w2
  | _ => cases r2 <;> exact False.elim w2
/-! ### xs[:0:-1] -/
theorem pick0 (items : Array Value) : slicePick items none (some 0) (some (-1)) = ((items.toList.drop 1).reverse).toArray := by
  cases hl : items.toList with
  | nil =>
    have : items = #[] := by rw [← Array.toArray_toList (xs := items), hl]
    subst this
    rfl
  | cons x r =>
    have hn : items.size = r.length + 1 := by rw [← Array.length_toList, hl]; rfl
    have hb : sliceBounds none (some 0) (some (-1)) items.size = ((items.size : Int) - 1, 0, -1) := by
      rw [hn]
      unfold sliceBounds
      simp
      omega
    have hs : sliceRange ((items.size : Int) - 1) 0 (-1) = (List.range r.length).map fun k => items.size - 1 - k := by
      rw [hn]
      unfold sliceRange
      have h1 : ¬ ((-1 : Int) > 0) := by decide
      by_cases h : ((r.length + 1 : Nat) : Int) - 1 > 0
      · have e : (((r.length + 1 : Nat) : Int) - 1 - 0 - -1 - 1) / (- -1) = (r.length : Int) := by
          rw [show (- -1 : Int) = 1 by decide, Int.ediv_one]
          omega
        simp only [h1, if_false, h, if_true, e, Int.toNat_natCast]
        apply List.map_congr_left
        intro k hk
        have := List.mem_range.mp hk
        omega
      · have e : r.length = 0 := by omega
        rw [e]
        simp
    unfold slicePick
    rw [hb]
    show ((sliceRange ((items.size : Int) - 1) 0 (-1)).filterMap (items[·]?)).toArray = _
    rw [hs]
    have whole : ((List.range items.size).map fun k => items.size - 1 - k).filterMap (items[·]?) = items.toList.reverse := by
      rw [PySem.W.krv_range, List.filterMap_reverse, PySem.W.krv_all]
    have e0 : items[0]? = some x := by rw [← Array.getElem?_toList, hl]; rfl
    rw [hl, List.reverse_cons] at whole
    have cut : ((List.range items.size).map fun k => items.size - 1 - k) = ((List.range r.length).map fun k => items.size - 1 - k) ++ [0] := by
      rw [show List.range items.size = List.range r.length ++ [r.length] by rw [hn, List.range_succ], List.map_append]
      congr 1
      show [items.size - 1 - r.length] = [0]
      congr 1
      omega
    rw [cut, List.filterMap_append] at whole
    have last : ([0] : List Nat).filterMap (items[·]?) = [x] := by simp [e0]
    rw [last] at whole
    rw [List.append_cancel_right whole]
    rfl
def tRev0 (K : PySem.W.Frag) (te : TE) : TE := fun σ H Q => te σ H fun x H1 => ∃ a xs, x = .ref a ∧ SqL K H1 a xs ∧ ∀ p, H1 p = none → Q (.ref p) (upd H1 p (.lst (xs.drop 1).reverse))
theorem Vals.drop1 : ∀ {xs : List V} {us : List Value}, Vals xs us → Vals (xs.drop 1) (us.drop 1)
  | _, _, .nil => .nil
  | _, _, .cons _ t => t
theorem pe_rev0 {e : Expr} {te : TE} {k k2 : Nat} {p1 p2 p3 p4 pos : Pos} (he : PE X e te) : PE X (.Subscript e (.Slice none (some (.Constant (.int 0) k2 p4)) (some (.UnaryOp .USub (.Constant (.int 1) k p1) p2)) p3) pos) (tRev0 X.K te) := by
  refine ⟨fun pins s σ H Q I h => ?_⟩
  refine Subscript_ (thn (he.run pins s σ H _ I h) fun v s1 ⟨x, H1, I1, r1, q1⟩ => ?_)
  obtain ⟨a, xs, ex, hx, q⟩ := q1
  subst ex
  cases r1
  have hst : PO X (some (.UnaryOp .USub (.Constant (.int 1) k p1) p2)) (tPart (tUn (rU fun i => .int (-i)) (tC (.int 1)))) := po_some (pe_un un_neg pe_int)
  have hup : PO X (some (.Constant (.int 0) k2 p4)) (tPart (tC (.int 0))) := po_some pe_int
  refine wpAny_Slice (thn (po_none.run pins s1 σ H1 (fun o H2 => o = none ∧ H2 = H1) I1 ⟨rfl, rfl⟩) fun vl s2 ⟨l, H2, I2, pl, el, e2⟩ => ?_)
  subst el e2
  refine thn (hup.run pins s2 σ H2 (fun o H3 => o = some 0 ∧ H3 = H2) I2 ⟨0, rfl, rfl, rfl⟩) fun vu s3 ⟨u, H3, I3, pu, eu, e3⟩ => ?_
  subst eu e3
  refine thn (hst.run pins s3 σ H3 (fun o H4 => o = some (-1) ∧ H4 = H3) I3 ⟨1, rfl, -1, rfl, rfl, rfl⟩) fun vs s4 ⟨o, H4, I4, ps, eo, e4⟩ => ?_
  subst eo e4
  have I5 : Inv X pins σ H4 { s4 with heap := s4.heap.push { cls := .type "slice", data := .fields #[vl, vu, vs] } } := I4.kept (t' := s4.toks) fun b ob q => Heap.get?_push_of_some _ q
  obtain ⟨its, r, ht, hz⟩ := I5.list hx
  have hlen := r.length
  show wpAny (model X.prog X.w) X.A (subscriptTail e (.Slice none (some (.Constant (.int 0) k2 p4)) (some (.UnaryOp .USub (.Constant (.int 1) k p1) p2)) p3) (.ref a) (.ref s4.heap.objs.size)) (EP X pins σ Q) X.xe { s4 with heap := s4.heap.push { cls := .type "slice", data := .fields #[vl, vu, vs] } }
  refine tail_any (ops := [.ref a, .ref s4.heap.objs.size]) ht.isList.typeIs (PySem.slot_list_getitem.lookup) ?_ (by with_unfolding_all rfl)
  refine wpAny_getItem_list_slice ht.isList (Heap.IsSliceOf.new _ vl vu vs) pl pu ps (by decide) ?_ (by rw [List.size_toArray]; omega)
  rw [pick0]
  refine ⟨.ref _, _, I5.laid (t' := s4.toks) (o := .lst (xs.drop 1).reverse) (fun b ob q => Heap.get?_push_of_some _ q) (Nat.le_refl _) ?_, rfl, q _ (I5.hok.fresh (Nat.le_refl _))⟩
  exact ⟨by rw [List.length_reverse, List.length_drop]; omega, _, 0, (Vals.drop1 r).reverse, Heap.get?_push_size _ rfl⟩
theorem le_rev0 {Γ : Gam} {a : E} {e : Expr} {k k2 : Nat} {p1 p2 p3 p4 pos : Pos} (hK : X.K = T.K) (ha : PE X e (LE T X RR (wpE Γ a))) : PE X (.Subscript e (.Slice none (some (.Constant (.int 0) k2 p4)) (some (.UnaryOp .USub (.Constant (.int 1) k p1) p2)) p3) pos) (LE T X RR (wpE Γ (.slRevTo a))) := by
  refine PE.imp (pe_rev0 ha) fun τ H Q ⟨F, G, σ, h, Qd, sr, w, kk⟩ => ⟨F, G, σ, h, _, sr, w, fun d h1 v F1 H1 s1 sr1 r1 w1 => ?_⟩
  obtain ⟨c, vs, l, rfl, sq, rl, w2⟩ := asL_of (P := fun l => Qd (.lst (l.drop 1).reverse) h1) hK sr1 r1 w1
  refine ⟨c, vs, rfl, sq, fun p hp => ?_⟩
  have g := Grow.new (o := .lst (vs.drop 1).reverse) sr1.sh.sF hp
  exact kk _ h1 _ _ _ (s1.trans g.f) (sr1.grow g) (.lst (SqL.of upd_same) ((rl.drop 1).reverse.mono g.f)) w2
end
end FF
namespace FF
open PySem PySem.Spec PyProof.Rows L2
section
variable {X : Cx} {T : Tb} {RR : RRt} {Γ : Gam}
/-! ### {"..": "..", "..": ".."}.get(x, y) -/
def dP (s1 t1 s2 t2 : List Nat) : List (List Nat × List Nat) := [(s1, t1), (s2, t2)]
theorem le_dget {i j : Nat} {s1 t1 s2 t2 : List Nat} {x y : Str} {k1 k2 k3 k4 : Nat} {a1 a2 a3 a4 p p2 apos dpos cpos : Pos} (ne : s1 ≠ s2) (hu : X.A.units + 64 < cLine)
    (hN : X.N[i]? = some x) (hv : Vis X.env.scope x) (hd : (x == ("__debug__" : Str)) = false) (hcd : (x == ("__classdict__" : Str)) = false)
    (hN2 : X.N[j]? = some y) (hv2 : Vis X.env.scope y) (hd2 : (y == ("__debug__" : Str)) = false) (hcd2 : (y == ("__classdict__" : Str)) = false) (hl : (apos.endLine == cpos.line) = true) :
    PE X (.Call (.Attribute (.Dict [some (.Constant (.str (sOf s1)) k1 a1), some (.Constant (.str (sOf s2)) k2 a2)] [.Constant (.str (sOf t1)) k3 a3, .Constant (.str (sOf t2)) k4 a4] dpos) "get" apos) [.Name x p, .Name y p2] [] cpos) (LE T X RR (wpE Γ (.dget (dP s1 t1 s2 t2) (.var i) (.var j)))) := by
  have hD : PE X (.Dict [some (.Constant (.str (sOf s1)) k1 a1), some (.Constant (.str (sOf s2)) k2 a2)] [.Constant (.str (sOf t1)) k3 a3, .Constant (.str (sOf t2)) k4 a4] dpos) (tDisp [(tC (.str (sOf s1)), tC (.str (sOf t1))), (tC (.str (sOf s2)), tC (.str (sOf t2)))]) :=
    pe_disp (pps_cons pe_str pe_str (pps_cons pe_str pe_str pps_nil)) rfl rfl (by simp) (show 2 ≤ 15 by decide)
  refine PE.imp (pe_dget2 (by omega) hD (pe_var (pos := p) hN hv hd hcd) (pe_var (pos := p2) hN2 hv2 hd2 hcd2) ⟨rfl, rfl, hl, rfl⟩) fun τ H Q ⟨F, G, σ, h, Qd, sr, w, kk⟩ => ?_
  have w : (match σ.at i with
    | .val d => (match σ.at j with
      | .val e => (match d with
        | .str s => Qd (match (dP s1 t1 s2 t2).lookup s with | some t => .str t | none => e) h
        | _ => False)
      | _ => False)
    | _ => False) := w
  cases e0 : σ.at i with
  | val d =>
    rw [e0] at w
    cases e1 : σ.at j with
    | val e =>
      rw [e1] at w
      obtain ⟨v, v1, r⟩ := sr.val e0
      obtain ⟨u, u1, r2⟩ := sr.val e1
      cases r with
      | @str s =>
        intro q hq
        have nek : (Sum.inr (sOf s1) : Key) ≠ Sum.inr (sOf s2) := fun z => ne (sOf_inj (Sum.inr.inj z))
        refine ⟨upd_same, [(Sum.inr (sOf s1), V.str (sOf t1)), (Sum.inr (sOf s2), V.str (sOf t2))], rfl, (show 2 ≤ 15 by decide), ?_⟩
        have em : mergeK ([] : List (Key × V)) [(Sum.inr (sOf s1), V.str (sOf t1)), (Sum.inr (sOf s2), V.str (sOf t2))] = [(Sum.inr (sOf s1), V.str (sOf t1)), (Sum.inr (sOf s2), V.str (sOf t2))] := by
          have z : (decide ((Sum.inr (sOf s1) : Key) = Sum.inr (sOf s2))) = false := decide_eq_false nek
          show putK (putK [] _ _) _ _ = _
          unfold putK
          simp [z]
          intro z2
          exact absurd (sOf_inj (by simpa [sOf] using z2)) ne
        rw [em, upd_upd]
        have g := Grow.new (o := HO.dK [(Sum.inr (sOf s1), V.str (sOf t1)), (Sum.inr (sOf s2), V.str (sOf t2))]) sr.sh.sF hq (fun _ z => by cases z)
        refine ⟨q, rfl, .inl ⟨_, .inl upd_same⟩, _, v1, _, u1, valV [(Sum.inr (sOf s1), V.str (sOf t1)), (Sum.inr (sOf s2), V.str (sOf t2))] (Sum.inr (sOf s)), DGet.k (k := (Sum.inr (sOf s) : Key)) upd_same, ?_⟩
        have b1 : ∀ a b : List Nat, decide ((Sum.inr (sOf a) : Key) = Sum.inr (sOf b)) = (b == a) := fun a b => by
          by_cases z : a = b
          · subst z; simp
          · rw [decide_eq_false (fun z2 => z (sOf_inj (Sum.inr.inj z2)))]
            exact (beq_eq_false_iff_ne.mpr (fun z2 => z z2.symm)).symm
        have val : ∀ {dd : D} {vv : V}, dd = (match (dP s1 t1 s2 t2).lookup s with | some t => .str t | none => e) → (vv = (valV [(Sum.inr (sOf s1), V.str (sOf t1)), (Sum.inr (sOf s2), V.str (sOf t2))] (Sum.inr (sOf s))).getD u) → Rep T (upd F q (HO.dK [(Sum.inr (sOf s1), V.str (sOf t1)), (Sum.inr (sOf s2), V.str (sOf t2))])) dd vv := fun {dd vv} hd hv => by
          unfold valV at hv
          unfold dP at hd
          rw [List.find?_cons, b1] at hv
          rw [List.lookup_cons] at hd
          cases c1 : s == s1 with
          | true =>
            rw [c1] at hd hv
            subst hd hv
            exact .str
          | false =>
            rw [c1] at hd hv
            simp only [List.find?_cons, b1] at hv
            simp only [List.lookup_cons] at hd
            cases c2 : s == s2 with
            | true =>
              rw [c2] at hd hv
              subst hd hv
              exact .str
            | false =>
              rw [c2] at hd hv
              simp only [List.find?_nil, List.lookup_nil] at hd hv
              subst hd hv
              exact r2.mono g.f
        exact kk _ h _ _ _ g.f (sr.grow g) (val rfl rfl) w
      | _ => exact w.elim
    | _ => rw [e1] at w; exact w.elim
  | _ => rw [e0] at w; exact w.elim
/-! ### isinstance of what was caught -/
structure ExcE (K : PySem.W.Frag) (D : Addr) : Prop where
  hcl : (PySem.W.clsIn K D).isSome = true
  ga : PySem.W.findIn K (.ref D) "__getattribute__" = some (some (.builtin "BaseException.__getattribute__"))
  gg : PySem.W.findIn K (.ref D) "__getattr__" = some none
  hs : PySem.W.subIn K (.ref D) (.type "BaseException") = some true
  ha : PySem.W.findIn K (.ref D) "__class__" = some (some (.builtin "object.__class__"))
  hn : PySem.W.specialIn K (.builtin "object.__class__") "__get__" = some (some (.builtin "getset_descriptor.__get__"))
  ht : PySem.W.takesIn K (.builtin "object.__class__") = some true
  hm : PySem.W.mroIn K D (.type "object") = some true
def excEB (K : PySem.W.Frag) (D : Addr) : Bool := (PySem.W.clsIn K D).isSome && (decide (PySem.W.findIn K (.ref D) "__getattribute__" = some (some (.builtin "BaseException.__getattribute__"))) && (decide (PySem.W.findIn K (.ref D) "__getattr__" = some none) && (decide (PySem.W.subIn K (.ref D) (.type "BaseException") = some true) &&
  (decide (PySem.W.findIn K (.ref D) "__class__" = some (some (.builtin "object.__class__"))) && (decide (PySem.W.specialIn K (.builtin "object.__class__") "__get__" = some (some (.builtin "getset_descriptor.__get__"))) && (decide (PySem.W.takesIn K (.builtin "object.__class__") = some true) && decide (PySem.W.mroIn K D (.type "object") = some true)))))))
theorem excEB_ok {K : PySem.W.Frag} {D : Addr} (h : excEB K D = true) : ExcE K D := by
  obtain ⟨h1, h⟩ := Bool.and_eq_true_iff.mp h
  obtain ⟨h2, h⟩ := Bool.and_eq_true_iff.mp h
  obtain ⟨h3, h⟩ := Bool.and_eq_true_iff.mp h
  obtain ⟨h4, h⟩ := Bool.and_eq_true_iff.mp h
  obtain ⟨h5, h⟩ := Bool.and_eq_true_iff.mp h
  obtain ⟨h6, h⟩ := Bool.and_eq_true_iff.mp h
  obtain ⟨h7, h8⟩ := Bool.and_eq_true_iff.mp h
  exact ⟨h1, of_decide_eq_true h2, of_decide_eq_true h3, of_decide_eq_true h4, of_decide_eq_true h5, of_decide_eq_true h6, of_decide_eq_true h7, of_decide_eq_true h8⟩
def rIsX (X : Cx) : List V → Hp → VK → Prop := fun xs H Q => ∃ (a : Addr) (oe : Obj) (D dd : Addr) (kvs : List (Str × V)) (c : V) (cv : Value) (b : Bool), xs = [.ref a, c] ∧ (a, oe) ∈ X.pn ∧ Zc (.ref D) (some dd) oe ∧ (∃ fv, oe.data = .fields fv) ∧ H dd = some (.xd kvs) ∧ ExcE X.K D ∧ (∀ u, RelV c u → u = cv) ∧ PySem.W.kitOne X.K (.ref D) cv = some b ∧ Q (.bl b) H
theorem call_isX : CallR X (.builtin "isinstance") (rIsX X) := by
  intro pins s σ H xs us Q I r h
  obtain ⟨a, oe, D, dd, kvs, c, cv, b, rfl, hp, z, fv, hF, E, hcv, e, q⟩ := h
  cases r with
  | cons rx rr =>
    cases rr with
    | cons rt rr =>
      cases rr
      cases rx
      have ec := hcv _ rt
      subst ec
      obtain ⟨ha, _⟩ := I.pin (a, oe) (List.mem_append_left _ hp)
      obtain ⟨vs, hd'⟩ := fv
      have hx : ObjOk X.prog X.w H s.heap dd (.xd kvs) := I.hok dd _ hF
      obtain ⟨mA, hns, hr⟩ := hx
      obtain ⟨od, ho, hl⟩ := lookIn_ns hns
      have J : PySem.W.InstAt s.heap a oe D (some od) := ⟨ha, z.1, by unfold PySem.W.notCls; rw [hd'], by rw [z.2]; exact ho⟩
      exact PySem.W.kia_one (PySem.W.kitx_exc E.hcl E.ga E.gg E.hs E.ha E.hn E.ht E.hm) I.kIn J e (fun z => nomatch z) fun tk => ⟨.bl b, H, I.kept (t' := tk) fun _ _ z => z, rfl, q⟩
theorem isx_at {i : Nat} {x : Str} {p : Pos} {τ : L2.St} {H : Hp} {Q : VK} (hN : X.N[i]? = some x) (hv : Vis X.env.scope x) (hd : (x == ("__debug__" : Str)) = false) (hcd : (x == ("__classdict__" : Str)) = false) {c : Nat} {d : D} {F G : Hp} {σ : FF.Env} {h : AH} (hK : X.K = T.K) (sr : SR T (RR.lk X) F G σ h τ H) (e0 : σ.at i = .exc c d) :
    ∃ (a : Addr) (oe : Obj) (dd : Addr) (kvs : List (Str × V)), τ[i]? = some (some (V.ref a)) ∧ (a, oe) ∈ X.pn ∧ Zc (.ref (T.cA c)) (some dd) oe ∧ (∃ fv, oe.data = .fields fv) ∧ H dd = some (.xd kvs) := by
  have q0 := sr.slot i
  rw [e0] at q0
  obtain ⟨e, oe, dd, v, p1, p2, z, fv, hF, r⟩ := q0
  exact ⟨e, oe, dd, _, p1, p2, z, fv, sr.sh.sF _ _ hF⟩
theorem le_isx {i c : Nat} {x y : Str} {p p2 p3 pos : Pos} (hK : X.K = T.K) (hg : Gl X "isinstance") (hm : X.mg "isinstance" = none) (hN : X.N[i]? = some x) (hv : Vis X.env.scope x) (hd : (x == ("__debug__" : Str)) = false) (hcd : (x == ("__classdict__" : Str)) = false)
    (hy : Gl X y) (hmy : X.mg y = some (.ref (T.cA c))) (hdy : (y == ("__debug__" : Str)) = false) (hf : ∀ c' b, Γ.sub c' c = some b → ExcE T.K (T.cA c') ∧ PySem.W.kitOne T.K (.ref (T.cA c')) (.ref (T.cA c)) = some b) :
    PE X (.Call (.Name "isinstance" p) [.Name x p2, .Name y p3] [] pos) (LE T X RR (wpE Γ (.isx i c))) := by
  have hcl : PE X (.Name y p3) (tC (.ref (T.cA c))) := pe_glob hy hmy rfl hdy
  refine PE.imp (pe_callB call_isX hg hm boot_isinstance (pa_cons (pe_var (pos := p2) hN hv hd hcd) (pa_cons hcl pa_nil (star_cons (e := .Name y p3) rfl)) (star_cons (e := .Name x p2) rfl)) (by decide) (by decide) (star_cons (e := .Name x p2) rfl) rfl) fun τ H Q ⟨F, G, σ, h, Qd, sr, w, k⟩ => ?_
  have w : (match σ.at i with
    | .exc c' _ => (match Γ.sub c' c with
      | some b => Qd (.bl b) h
      | none => False)
    | _ => False) := w
  cases e0 : σ.at i with
  | exc c' d =>
    rw [e0] at w
    have w : (match Γ.sub c' c with
      | some b => Qd (.bl b) h
      | none => False) := w
    cases e1 : Γ.sub c' c with
    | none => rw [e1] at w; exact w.elim
    | some b =>
      rw [e1] at w
      obtain ⟨a, oe, dd, kvs, p1, p2, z, fv, hF⟩ := isx_at (p := p2) (Q := Q) hN hv hd hcd hK sr e0
      obtain ⟨E, ko⟩ := hf c' b e1
      exact ⟨_, p1, a, oe, T.cA c', dd, kvs, .ref (T.cA c), .ref (T.cA c), b, rfl, p2, z, fv, hF, hK ▸ E, fun u hu => hu, hK ▸ ko, k _ h _ F H (Same.refl _) sr .bl w⟩
  | _ => rw [e0] at w; exact w.elim
theorem boot_arith : bootBuiltins ("ArithmeticError" : Str) = some (.type "ArithmeticError") := by decide +kernel
theorem le_isxA {i : Nat} {x : Str} {p p2 p3 pos : Pos} (hK : X.K = T.K) (hg : Gl X "isinstance") (hm : X.mg "isinstance" = none) (hN : X.N[i]? = some x) (hv : Vis X.env.scope x) (hd : (x == ("__debug__" : Str)) = false) (hcd : (x == ("__classdict__" : Str)) = false)
    (hy : Gl X "ArithmeticError") (hmy : X.mg "ArithmeticError" = none) (hf : ∀ c' c b, Γ.sub c' c = some b → ExcE T.K (T.cA c') ∧ PySem.W.kitOne T.K (.ref (T.cA c')) (.type "ArithmeticError") = some true) :
    PE X (.Call (.Name "isinstance" p) [.Name x p2, .Name "ArithmeticError" p3] [] pos) (LE T X RR (wpE Γ (.isxA i))) := by
  have hcl : PE X (.Name "ArithmeticError" p3) (tC (.ty "ArithmeticError")) := pe_bltn hy hmy boot_arith rfl (by decide) (by decide)
  refine PE.imp (pe_callB call_isX hg hm boot_isinstance (pa_cons (pe_var (pos := p2) hN hv hd hcd) (pa_cons hcl pa_nil (star_cons (e := .Name "ArithmeticError" p3) rfl)) (star_cons (e := .Name x p2) rfl)) (by decide) (by decide) (star_cons (e := .Name x p2) rfl) rfl) fun τ H Q ⟨F, G, σ, h, Qd, sr, w, k⟩ => ?_
  have w : (match σ.at i with
    | .exc c' _ => (∃ c b, Γ.sub c' c = some b) ∧ Qd (.bl true) h
    | _ => False) := w
  cases e0 : σ.at i with
  | exc c' d =>
    rw [e0] at w
    have w : (∃ c b, Γ.sub c' c = some b) ∧ Qd (.bl true) h := w
    obtain ⟨⟨c, b, e1⟩, w⟩ := w
    obtain ⟨a, oe, dd, kvs, p1, p2, z, fv, hF⟩ := isx_at (p := p2) (Q := Q) hN hv hd hcd hK sr e0
    obtain ⟨E, ko⟩ := hf c' c b e1
    exact ⟨_, p1, a, oe, T.cA c', dd, kvs, .ty "ArithmeticError", .type "ArithmeticError", true, rfl, p2, z, fv, hF, hK ▸ E, fun u hu => hu, hK ▸ ko, k _ h _ F H (Same.refl _) sr .bl w⟩
  | _ => rw [e0] at w; exact w.elim
/-! ### xs.count(True) -/
theorem reads_bls {h : Heap} : ∀ {bs : List Bool} {us : List Value}, Vals (bs.map V.bl) us → ReadsAll h us (bs.map PyData.bool) []
  | [], _, .nil => .nil
  | b :: r, _, .cons e t => by
    cases e
    exact ReadsAll.cons (as := []) (bs := []) (.bool b) (reads_bls t)
theorem bls_plain : ∀ (bs : List Bool), PyData.plainAll (bs.map PyData.bool) = true
  | [] => by simp [PyData.plainAll]
  | b :: r => by simp [PyData.plainAll, PyData.plain, bls_plain r]
theorem bls_depth : ∀ (bs : List Bool), PyData.depthAll (bs.map PyData.bool) = 0
  | [] => by simp [PyData.depthAll]
  | b :: r => by simp [PyData.depthAll, PyData.depth, bls_depth r]
theorem bls_count : ∀ (bs : List Bool), ((bs.map PyData.bool).countP fun y => PyData.eqv y (.bool true)) = bs.count true
  | [] => rfl
  | b :: r => by
    rw [List.map_cons, List.countP_cons, List.count_cons, bls_count r]
    cases b <;> simp [PyData.eqv]
theorem pe_cntB {o : Expr} {to : TE} {k : Nat} {p apos cpos : Pos} (hu : X.A.units + 64 < cLine) (ho : PE X o to) (hb : noSuper o = true) (hl : (apos.endLine == cpos.line) = true) :
    PE X (.Call (.Attribute o "count" apos) [.Constant (.bool true) k p] [] cpos) (fun σ H Q => to σ H fun x H1 => ∃ (a : Addr) (bs : List Bool), x = .ref a ∧ SqL X.K H1 a (bs.map V.bl) ∧ Q (.int (bs.count true : Nat)) H1) := by
  refine ⟨fun pins s σ H Q I h => ?_⟩
  refine wpAny_Call_method (base_ok hb) rfl hl PySem.F.plainAttrs_list PySem.F.slot_list_count PySem.F.type_list_count (thn (ho.run pins s σ H _ I h) fun u s1 ⟨x, H1, I1, rx, a, bs, ex, hs, q1⟩ => ?_)
  subst ex
  obtain rfl : u = Value.ref a := rx
  obtain ⟨its, rv, pl, hz⟩ := I1.list hs
  have il := pl.isList
  obtain ⟨o1, n1, g1, c1, d1, dd1⟩ := pl
  refine ⟨⟨o1, g1, c1⟩, fun b e => by cases e; exact ⟨o1, g1, d1⟩, ?_⟩
  refine Calls.callWith_builtin rfl (Calls.evalArgs_plain (Calls.spliced_cons (thn ((pe_bl (b := true) (j := k) (pos := p)).run pins s1 σ H1 (fun v H2 => v = .bl true ∧ H2 = H1) I1 ⟨rfl, rfl⟩) fun iv s2 ⟨y, H2, I2, ry, ey, e2⟩ => Calls.spliced_nil ?_)))
  subst ey e2
  cases ry
  obtain ⟨its2, rv2, pl2, hz2⟩ := I2.list hs
  refine PySem.SeqAt.count_list_data (d := .bool true) (xs := bs.map PyData.bool) pl2.isList (by simpa using reads_bls rv2) (.bool true) (bls_plain bs) rfl (by rw [bls_depth, Nat.zero_min]; omega) ?_
  rw [bls_count]
  exact ⟨.int (bs.count true : Nat), H2, I2.tok _, ⟨_, rfl⟩, q1⟩
theorem le_cntB {a : E} {o : Expr} {k : Nat} {p apos cpos : Pos} (hK : X.K = T.K) (hu : X.A.units + 64 < cLine) (hb : noSuper o = true) (hl : (apos.endLine == cpos.line) = true) (ha : PE X o (LE T X RR (wpE Γ a))) :
    PE X (.Call (.Attribute o "count" apos) [.Constant (.bool true) k p] [] cpos) (LE T X RR (wpE Γ (.cntB a))) := by
  refine PE.imp (pe_cntB hu ha hb hl) fun τ H Q ⟨F, G, σ, h, Qd, sr, w, kk⟩ => ⟨F, G, σ, h, _, sr, w, fun d h1 v F1 H1 s1 sr1 r1 w1 => ?_⟩
  obtain ⟨c, bs, rfl, sq, w2⟩ := of_asL_bools (P := fun bs => Qd (.int (bs.count true : Nat)) h1) hK sr1.sh r1 w1
  exact ⟨c, bs, rfl, sq, kk _ h1 _ F1 H1 s1 sr1 .int w2⟩
/-! ### a dict of the module, of texts -/
/-- what the head says of it -/
def DcC (T : Tb) (w : World) (d : Addr) (ps : List (List Nat × D)) : Prop := (∃ es n, KDict T.K w d es n) ∧ ∀ s x, ps.lookup s = some x → ∃ u v, PySem.W.nsIn T.K d (sOf s) = some (some u) ∧ RelV v u ∧ ∀ F, Rep T F x v
def inM (neg : Bool) : CmpOp := if neg then .NotIn else .In
def rInD (K : PySem.W.Frag) (d : Addr) (neg : Bool) : R2 := fun x y H Q => ∃ (z : Str) (r : Option Value), x = .str z ∧ y = .ref d ∧ PySem.W.nsIn K d z = some r ∧ Q (.bl (if neg then !r.isSome else r.isSome)) H
theorem op_ind {d : Addr} {es : Array DictEntry} {n : Nat} (kd : KDict X.K X.w d es n) (neg : Bool) : OpR X (compareOp (inM neg)) (rInD X.K d neg) := by
  cases neg
  · exact op_in_kd kd
  · exact op_notIn_kd kd
theorem gdin_go {g : Nat} {ps : List (List Nat × D)} {neg : Bool} {a : E} {d : Addr} (hK : X.K = T.K) (D : DcC T X.w d ps) {τ : L2.St} {H : Hp} {Q : VK} (h : LE T X RR (wpE Γ (.gdin g ps neg a)) τ H Q) : tOp (rInD X.K d neg) (LE T X RR (wpE Γ a)) (tC (.ref d)) τ H Q := by
  obtain ⟨F, G, σ, h, Qd, sr, w, kk⟩ := h
  obtain ⟨_, kv⟩ := D
  refine ⟨F, G, σ, h, _, sr, w, fun x h1 v F1 H1 s1 sr1 r1 w1 => ?_⟩
  cases r1 with
  | @str s =>
    have w1 : (∃ d, ps.lookup s = some d) ∧ Qd (.bl (!neg)) h1 := w1
    obtain ⟨⟨z, hz⟩, w1⟩ := w1
    obtain ⟨u, v, hu, _⟩ := kv s z hz
    refine ⟨_, some u, rfl, rfl, hK ▸ hu, ?_⟩
    cases neg
    · exact kk _ h1 _ F1 H1 s1 sr1 .bl w1
    · exact kk _ h1 _ F1 H1 s1 sr1 .bl w1
  | _ => exact w1.elim
theorem le_gdin {g : Nat} {ps : List (List Nat × D)} {neg : Bool} {a : E} {e : Expr} {y : Str} {d : Addr} {p pos : Pos} (hK : X.K = T.K) (hy : Gl X y) (hmy : X.mg y = some (.ref d)) (hdy : (y == ("__debug__" : Str)) = false) (D : DcC T X.w d ps) (ha : PE X e (LE T X RR (wpE Γ a))) :
    PE X (.Compare e [inM neg] [.Name y p] pos) (LE T X RR (wpE Γ (.gdin g ps neg a))) := by
  obtain ⟨⟨es, n, kd⟩, kv⟩ := id D
  have hcl : PE X (.Name y p) (tC (.ref d)) := pe_glob hy hmy rfl hdy
  exact PE.imp (pe_cmpR (op_ind (X := X) (hK ▸ kd) neg) ha hcl (by cases neg <;> rfl)) fun τ H Q h => gdin_go hK D h
theorem lt_gdin {g : Nat} {ps : List (List Nat × D)} {neg : Bool} {a : E} {e : Expr} {y : Str} {d : Addr} {p pos : Pos} (hK : X.K = T.K) (hy : Gl X y) (hmy : X.mg y = some (.ref d)) (hdy : (y == ("__debug__" : Str)) = false) (D : DcC T X.w d ps) (ha : PE X e (LE T X RR (wpE Γ a))) :
    PT X (.Compare e [inM neg] [.Name y p] pos) (LT T X RR (wpE Γ (.gdin g ps neg a))) := by
  obtain ⟨⟨es, n, kd⟩, kv⟩ := id D
  have hcl : PE X (.Name y p) (tC (.ref d)) := pe_glob hy hmy rfl hdy
  refine PT.imp (pt_cmpR (op_ind (X := X) (hK ▸ kd) neg) ha hcl (by cases neg <;> rfl)) fun τ H Q ⟨F, G, σ, h, Qd, sr, w, k⟩ => ?_
  have q0 : LE T X RR (wpE Γ (.gdin g ps neg a)) τ H (fun x H' => ∃ k, x = .bl k ∧ Q k H') := by
    refine ⟨F, G, σ, h, (fun x h' => match x with | .bl k => Qd k h' | _ => False), sr, w, fun d h' v F' H' s sr' r q => ?_⟩
    cases r with
    | bl => exact ⟨_, rfl, k _ h' F' H' s sr' q⟩
    | _ => exact False.elim q
  exact gdin_go hK D q0
theorem pe_kdix {o i : Expr} {ty : TE} {d : Addr} {es : Array DictEntry} {n : Nat} {pos : Pos} (D : KDict X.K X.w d es n) (ho : PE X o (tC (.ref d))) (hi : PE X i ty) (hs : NoSl i) : PE X (.Subscript o i pos) (fun σ H Q => ty σ H fun y H1 => ∃ (z : Str) (u0 : Value) (v0 : V), y = .str z ∧ PySem.W.nsIn X.K d z = some (some u0) ∧ RelV v0 u0 ∧ Q v0 H1) := by
  refine ⟨fun pins s σ H Q I h => ?_⟩
  refine subD_of PySem.F.slot_dict_getitem.lookup hs (thn (ho.run pins s σ H (fun x H1 => x = .ref d ∧ H1 = H) I ⟨rfl, rfl⟩) fun u s1 ⟨x, H1, I1, rx, ex, e1⟩ => ?_)
  subst ex e1
  refine thn (hi.run pins s1 σ H1 _ I1 h) fun iv s2 ⟨y, H2, I2, ry, z, u0, v0, ey, e, r, q⟩ => ?_
  subst ey
  obtain rfl : u = Value.ref d := rx
  exact ⟨kd_type D I2, op_item_kd D pins s2 σ H2 (.ref d) (.str z) _ _ Q I2 rfl ry ⟨z, u0, v0, rfl, rfl, e, r, q⟩⟩
theorem le_gdidx {g : Nat} {ps : List (List Nat × D)} {a : E} {e : Expr} {y : Str} {d : Addr} {p pos : Pos} (hK : X.K = T.K) (hy : Gl X y) (hmy : X.mg y = some (.ref d)) (hdy : (y == ("__debug__" : Str)) = false) (D : DcC T X.w d ps) (hs : noSlice e = true) (ha : PE X e (LE T X RR (wpE Γ a))) :
    PE X (.Subscript (.Name y p) e pos) (LE T X RR (wpE Γ (.gdidx g ps a))) := by
  obtain ⟨⟨es, n, kd⟩, kv⟩ := D
  have kd : KDict X.K X.w d es n := hK ▸ kd
  have hcl : PE X (.Name y p) (tC (.ref d)) := pe_glob hy hmy rfl hdy
  refine PE.imp (pe_kdix kd hcl ha (ix_ok hs)) fun τ H Q ⟨F, G, σ, h, Qd, sr, w, kk⟩ => ⟨F, G, σ, h, _, sr, w, fun x h1 v F1 H1 s1 sr1 r1 w1 => ?_⟩
  cases r1 with
  | @str s =>
    have w1 : (match ps.lookup s with
      | some d => Qd d h1
      | none => False) := w1
    cases e0 : ps.lookup s with
    | none => rw [e0] at w1; exact w1.elim
    | some x =>
      rw [e0] at w1
      obtain ⟨u, v, hu, hr, rp⟩ := kv s x e0
      exact ⟨_, u, v, rfl, hK ▸ hu, hr, kk _ h1 _ F1 H1 s1 sr1 (rp F1) w1⟩
  | _ => exact w1.elim
end
end FF
namespace FF
open PySem PySem.Spec PyProof.Rows L2
section
variable {X : Cx} {T : Tb} {RR : RRt} {Γ : Gam}
/-! ### {"down": "up", "up": "down"}, and x.get(y, z) of it -/
abbrev dnS : List Nat := [100, 111, 119, 110]
abbrev upS : List Nat := [117, 112]
theorem le_dctM {k1 k2 k3 k4 : Nat} {a1 a2 a3 a4 dpos : Pos} :
    PE X (.Dict [some (.Constant (.str (sOf dnS)) k1 a1), some (.Constant (.str (sOf upS)) k2 a2)] [.Constant (.str (sOf upS)) k3 a3, .Constant (.str (sOf dnS)) k4 a4] dpos) (LE T X RR (wpE Γ .dctM)) := by
  have hD : PE X (.Dict [some (.Constant (.str (sOf dnS)) k1 a1), some (.Constant (.str (sOf upS)) k2 a2)] [.Constant (.str (sOf upS)) k3 a3, .Constant (.str (sOf dnS)) k4 a4] dpos) (tDisp [(tC (.str (sOf dnS)), tC (.str (sOf upS))), (tC (.str (sOf upS)), tC (.str (sOf dnS)))]) :=
    pe_disp (pps_cons pe_str pe_str (pps_cons pe_str pe_str pps_nil)) rfl rfl (by simp) (show 2 ≤ 15 by decide)
  refine PE.imp hD fun τ H Q ⟨F, G, σ, h, Qd, sr, w, kk⟩ => ?_
  intro q hq
  refine ⟨upd_same, [(Sum.inr (sOf dnS), V.str (sOf upS)), (Sum.inr (sOf upS), V.str (sOf dnS))], rfl, (show 2 ≤ 15 by decide), ?_⟩
  have nek : (Sum.inr (sOf dnS) : Key) ≠ Sum.inr (sOf upS) := fun z => by
    have z2 : dnS = upS := sOf_inj (Sum.inr.inj z)
    exact absurd z2 (by decide)
  have em : mergeK ([] : List (Key × V)) [(Sum.inr (sOf dnS), V.str (sOf upS)), (Sum.inr (sOf upS), V.str (sOf dnS))] = [(Sum.inr (sOf dnS), V.str (sOf upS)), (Sum.inr (sOf upS), V.str (sOf dnS))] := by
    have z : (decide ((Sum.inr (sOf dnS) : Key) = Sum.inr (sOf upS))) = false := decide_eq_false nek
    show putK (putK ([] : List (Key × V)) (Sum.inr (sOf dnS)) (V.str (sOf upS))) (Sum.inr (sOf upS)) (V.str (sOf dnS)) = _
    unfold putK
    simp [z]
  rw [em, upd_upd]
  have g := Grow.new (o := HO.dK [(Sum.inr (sOf dnS), V.str (sOf upS)), (Sum.inr (sOf upS), V.str (sOf dnS))]) sr.sh.sF hq (fun _ z => by cases z)
  exact kk _ h _ _ _ g.f (sr.grow g) (.dcm upd_same) w
theorem le_vget {i j k : Nat} {z x y : Str} {p0 p p2 apos cpos : Pos} (hu : X.A.units + 64 < cLine)
    (hN0 : X.N[i]? = some z) (hv0 : Vis X.env.scope z) (hd0 : (z == ("__debug__" : Str)) = false) (hcd0 : (z == ("__classdict__" : Str)) = false)
    (hN : X.N[j]? = some x) (hv : Vis X.env.scope x) (hd : (x == ("__debug__" : Str)) = false) (hcd : (x == ("__classdict__" : Str)) = false)
    (hN2 : X.N[k]? = some y) (hv2 : Vis X.env.scope y) (hd2 : (y == ("__debug__" : Str)) = false) (hcd2 : (y == ("__classdict__" : Str)) = false) (hb : noSuper (.Name z p0) = true) (hl : (apos.endLine == cpos.line) = true) :
    PE X (.Call (.Attribute (.Name z p0) "get" apos) [.Name x p, .Name y p2] [] cpos) (LE T X RR (wpE Γ (.vget i j k))) := by
  refine PE.imp (pe_dget2 (by omega) (pe_var (pos := p0) hN0 hv0 hd0 hcd0) (pe_var (pos := p) hN hv hd hcd) (pe_var (pos := p2) hN2 hv2 hd2 hcd2) ⟨base_ok hb, rfl, hl, rfl⟩) fun τ H Q ⟨F, G, σ, h, Qd, sr, w, kk⟩ => ?_
  obtain ⟨w0, w⟩ : σ.at i = .val (.odd 1) ∧ (match σ.at j with
    | .val d => (match σ.at k with
      | .val e => (match d with
        | .str s => Qd (match dUD.lookup s with | some t => .str t | none => e) h
        | _ => False)
      | _ => False)
    | _ => False) := w
  obtain ⟨vd, vd1, rd⟩ := sr.val w0
  cases e0 : σ.at j with
  | val d =>
    rw [e0] at w
    cases e1 : σ.at k with
    | val e =>
      rw [e1] at w
      obtain ⟨v, v1, r⟩ := sr.val e0
      obtain ⟨u, u1, r2⟩ := sr.val e1
      cases r with
      | @str s =>
        cases rd with
        | @dcm q hq =>
          have hq : H q = some (.dK [(Sum.inr (sOf dnS), V.str (sOf upS)), (Sum.inr (sOf upS), V.str (sOf dnS))]) := sr.sh.sF _ _ hq
          refine ⟨_, vd1, q, rfl, .inl ⟨_, .inl hq⟩, _, v1, _, u1, valV [(Sum.inr (sOf dnS), V.str (sOf upS)), (Sum.inr (sOf upS), V.str (sOf dnS))] (Sum.inr (sOf s)), DGet.k (k := (Sum.inr (sOf s) : Key)) hq, ?_⟩
          have b1 : ∀ a b : List Nat, decide ((Sum.inr (sOf a) : Key) = Sum.inr (sOf b)) = (b == a) := fun a b => by
            by_cases z : a = b
            · subst z; simp
            · rw [decide_eq_false (fun z2 => z (sOf_inj (Sum.inr.inj z2)))]
              exact (beq_eq_false_iff_ne.mpr (fun z2 => z z2.symm)).symm
          have val : ∀ {dd : D} {vv : V}, dd = (match dUD.lookup s with | some t => .str t | none => e) → (vv = (valV [(Sum.inr (sOf dnS), V.str (sOf upS)), (Sum.inr (sOf upS), V.str (sOf dnS))] (Sum.inr (sOf s))).getD u) → Rep T F dd vv := fun {dd vv} hd hv => by
            unfold valV at hv
            unfold dUD at hd
            rw [List.find?_cons, b1] at hv
            rw [List.lookup_cons] at hd
            cases c1 : s == dnS with
            | true =>
              rw [c1] at hd hv
              subst hd hv
              exact .str
            | false =>
              rw [c1] at hd hv
              simp only [List.find?_cons, b1] at hv
              simp only [List.lookup_cons] at hd
              cases c2 : s == upS with
              | true =>
                rw [c2] at hd hv
                subst hd hv
                exact .str
              | false =>
                rw [c2] at hd hv
                simp only [List.find?_nil, List.lookup_nil] at hd hv
                subst hd hv
                exact r2
          exact kk _ h _ _ _ (Same.refl _) sr (val rfl rfl) w
      | _ => exact w.elim
    | _ => rw [e1] at w; exact w.elim
  | _ => rw [e0] at w; exact w.elim
/-! ### what an expression tells is called -/
theorem le_calle {k m : Nat} {a : E} {es : Es} {f e : Expr} {l : List Expr} {pos : Pos} (hK : X.K = T.K) (g : ∀ n, Γ.cvs n → (∃ ds h Q R, Γ.fn n ds h Q R) → Good X.prog X.w T X.mg X.base k n (Γ.fn n)) (hr : Room k X.A)
    (tk : Takes X (WR T X RR)) (hs : (e :: l).all noStar = true) (hf : PE X f (LE T X RR (wpE Γ a))) (ha : PA X (e :: l) (LA T X RR m (wpEs Γ es))) (hkp : ∀ n, Γ.cvs n → PySem.W.keepIn T.K (.ref (T.fA n)) = true)
    (ht : eval (.Call f (e :: l) [] pos) X.env = (do callWith pos (← eval f X.env) [] (backTo pos (starEach (e :: l) X.env)) (backToKw pos (keywordEach [] X.env)))) : PE X (.Call f (e :: l) [] pos) (LE T X RR (wpE Γ (.calle a es))) := by
  have hs' : noStar e = true ∧ l.all noStar = true := by rw [List.all_cons, Bool.and_eq_true] at hs; exact hs
  refine ⟨fun pins s τ H Q I ⟨F0, G, σ, h, Qd, sr, w, kk⟩ => ?_⟩
  refine Call_ (thn (hf.run pins s τ H (fun v H1 => ∃ n, v = .ref (T.fA n) ∧ Γ.cvs n ∧ LA T X RR m (wpEs Γ es) τ H1 fun vs H2 => (∃ ds h Q R, Γ.fn n ds h Q R) ∧ prom T (Γ.fn n) vs H2 Q (WE (WR T X RR) τ)) I ?_) fun u s1 ⟨v, H1, I1, r1, n, ev, hn, q1⟩ => ?_) ht
  · refine ⟨F0, G, σ, h, _, sr, w, fun d h1 v F1 H1 s1 sr1 r1 w1 => ?_⟩
    cases r1 with
    | @fn n =>
      obtain ⟨hn, w1⟩ := w1
      exact ⟨n, rfl, hn, F1, G, σ, h1, _, sr1, w1, fun ds h2 vs F2 H2 l2 s2 sr2 r2 w2 => ⟨⟨_, _, _, _, w2⟩, prom_of sr2 r2 w2 fun d h' v F' H' s => kk d h' v F' H' (s1.trans (s2.trans s))⟩⟩
    | _ => exact w1.elim
  · subst ev
    cases r1
    refine PySem.W.callWith_K (h₀ := X.base) I.ok.mod.kin (hK ▸ hkp n hn) (thn (ha.run pos pins s1 τ _ _ I1 q1) fun us s2 ⟨vs, H2, I2, r, ⟨ex, q⟩⟩ => ⟨I2.kIn, ?_⟩) (star_cons hs'.1) (star_any hs'.2)
    obtain ⟨⟨fd, ps, F, b⟩, kp⟩ := g n hn ex
    have F : FnOk X.prog X.w X.K X.mg X.base (L2.CX X.prog X.w) k (T.fA n) fd ps (prom T (Γ.fn n)) := hK ▸ F
    have b : Binds X.K fd ps [] := hK ▸ b
    refine run_fnSD (dvs := []) (E := WE (WR T X RR)) F hr b .nil (passAt tk τ) I2 r ?_
    rw [List.append_nil]
    exact q
/-! ### xs.index(k), of integers -/
theorem ints_flat : ∀ (ns : List Int), (ns.map V.int).all flatV = true
  | [] => rfl
  | n :: r => by rw [List.map_cons, List.all_cons, ints_flat r]; rfl
theorem le_lidx {a b : E} {o e : Expr} {apos cpos : Pos} (hK : X.K = T.K) (hb : noSuper o = true) (hl : (apos.endLine == cpos.line) = true) (hs : noStar e = true) (ha : PE X o (LE T X RR (wpE Γ a))) (he : PE X e (LE T X RR (wpE Γ b))) :
    PE X (.Call (.Attribute o "index" apos) [e] [] cpos) (LE T X RR (wpE Γ (.lidx a b))) := by
  have hA := pa_cons he pa_nil (star_cons hs)
  have few : ((backTo cpos (starEach [e] X.env)).all (fun x => !x.1) && (backToKw cpos (keywordEach [] X.env)).all (fun x => x.1.isSome)
      && decide (([e] : List Expr).length + ([] : List Keyword).length + (if ([] : List Keyword).isEmpty then 0 else 1) < 30)) = true := by
    rw [star_all (es := [e]) (by simp [hs])]
    rfl
  refine PE.imp (pe_bm PySem.F.plainAttrs_list PySem.F.slot_list_index PySem.F.type_list_index mt_index ha hA (base_ok hb) few hl (star_cons hs) rfl) fun τ H Q ⟨F, G, σ, h, Qd, sr, w, kk⟩ => ⟨F, G, σ, h, _, sr, w, fun d h1 v F1 H1 s1 sr1 r1 ⟨⟨l, el⟩, w1⟩ => ?_⟩
  obtain ⟨c, vs, rfl, sq, rl⟩ := asL_rep sr1.sh r1 el
  refine ⟨.inl ⟨rfl, vs, hK ▸ sq⟩, F1, G, σ, h1, _, sr1, w1, fun y h2 vy F2 H2 s2 sr2 r2 w2 => ?_⟩
  obtain ⟨c2, ns, e2, sq2, w3⟩ := of_asL_ints (P := fun ns => atInt y fun k => k ∈ ns ∧ Qd (.int (ns.idxOf k : Nat)) h2) hK sr2.sh (r1.mono s2) w2
  cases e2
  cases r2 with
  | @int k =>
    obtain ⟨hk, w3⟩ := w3
    have lt : ns.idxOf k < ns.length := List.idxOf_lt_length_iff.mpr hk
    refine ⟨c, ns.map V.int, .int k, ns.idxOf k, .int k, rfl, rfl, sq2, rfl, ints_flat ns, ?_, by simp [eqV], fun m z hm hz => ?_, kk _ h2 _ F2 H2 (s1.trans s2) sr2 .int w3⟩
    · rw [List.getElem?_map, List.getElem?_eq_getElem lt, List.getElem_idxOf lt]
      rfl
    · have ml : m < ns.length := by omega
      rw [List.getElem?_map, List.getElem?_eq_getElem ml] at hz
      cases hz
      have h3 := List.not_of_lt_findIdx (p := fun y => y == k) (xs := ns) (i := m) hm
      simpa [eqV] using h3
  | _ => exact w3.elim
/-! ### xs[::k], k 1 or -1 -/
theorem pe_stepL {e st : Expr} {te ts : TE} {p3 pos : Pos} (he : PE X e te) (hs : PE X st ts) : PE X (.Subscript e (.Slice none none (some st) p3) pos) (fun σ H Q => te σ H fun x H1 => tPart ts σ H1 fun o H2 => ∃ a xs k, x = .ref a ∧ o = some k ∧ SqL X.K H2 a xs ∧ (k = 1 ∨ k = -1) ∧ ∀ p, H2 p = none → Q (.ref p) (upd H2 p (.lst (if k = 1 then xs else xs.reverse)))) := by
  refine ⟨fun pins s σ H Q I h => ?_⟩
  refine Subscript_ (thn (he.run pins s σ H _ I h) fun v s1 ⟨x, H1, I1, r1, q1⟩ => ?_)
  have hst : PO X (some st) (tPart ts) := po_some hs
  refine wpAny_Slice (thn (po_none.run pins s1 σ H1 (fun o H2 => o = none ∧ H2 = H1) I1 ⟨rfl, rfl⟩) fun vl s2 ⟨l, H2, I2, pl, el, e2⟩ => ?_)
  subst el e2
  refine thn (po_none.run pins s2 σ H2 (fun o H3 => o = none ∧ H3 = H2) I2 ⟨rfl, rfl⟩) fun vu s3 ⟨u, H3, I3, pu, eu, e3⟩ => ?_
  subst eu e3
  refine thn (hst.run pins s3 σ H3 _ I3 q1) fun vs s4 ⟨o, H4, I4, ps, a, xs, k, ex, eo, hx, hk, q⟩ => ?_
  subst ex eo
  cases r1
  have I5 : Inv X pins σ H4 { s4 with heap := s4.heap.push { cls := .type "slice", data := .fields #[vl, vu, vs] } } := I4.kept (t' := s4.toks) fun b ob q => Heap.get?_push_of_some _ q
  obtain ⟨its, r, ht, hz⟩ := I5.list hx
  have hlen := r.length
  show wpAny (model X.prog X.w) X.A (subscriptTail e (.Slice none none (some st) p3) (.ref a) (.ref s4.heap.objs.size)) (EP X pins σ Q) X.xe { s4 with heap := s4.heap.push { cls := .type "slice", data := .fields #[vl, vu, vs] } }
  refine tail_any (ops := [.ref a, .ref s4.heap.objs.size]) ht.isList.typeIs (PySem.slot_list_getitem.lookup) ?_ (by with_unfolding_all rfl)
  have k0 : some k ≠ some (0 : Int) := fun z => by cases z; omega
  refine wpAny_getItem_list_slice ht.isList (Heap.IsSliceOf.new _ vl vu vs) pl pu ps k0 ?_ (by rw [List.size_toArray]; omega)
  have pick : slicePick its.toArray none none (some k) = (if k = 1 then its else its.reverse).toArray := by
    rcases hk with rfl | rfl
    · have e1 : slicePick its.toArray none none (some 1) = slicePick its.toArray none none none := rfl
      rw [e1, slicePick_cut, if_pos rfl]
      simp [HT.sIx]
    · rw [PySem.W.krv_pick, if_neg (by decide)]
  rw [pick]
  refine ⟨.ref _, _, I5.laid (t' := s4.toks) (o := .lst (if k = 1 then xs else xs.reverse)) (fun b ob q => Heap.get?_push_of_some _ q) (Nat.le_refl _) ?_, rfl, q _ (I5.hok.fresh (Nat.le_refl _))⟩
  refine ⟨by split <;> (try rw [List.length_reverse]) <;> exact hz, _, 0, ?_, Heap.get?_push_size _ rfl⟩
  split
  · exact r
  · exact r.reverse
theorem le_slStep {a b : E} {e st : Expr} {p3 pos : Pos} (hK : X.K = T.K) (ha : PE X e (LE T X RR (wpE Γ a))) (hb : PE X st (LE T X RR (wpE Γ b))) : PE X (.Subscript e (.Slice none none (some st) p3) pos) (LE T X RR (wpE Γ (.slStep a b))) := by
  refine PE.imp (pe_stepL ha hb) fun τ H Q ⟨F, G, σ, h, Qd, sr, w, kk⟩ => ⟨F, G, σ, h, _, sr, w, fun d h1 v F1 H1 s1 sr1 r1 w1 => ⟨F1, G, σ, h1, _, sr1, w1, fun y h2 vy F2 H2 s2 sr2 r2 w2 => ?_⟩⟩
  obtain ⟨c, vs, l, rfl, sq, rl, w3⟩ := asL_of (P := fun l => atInt y fun k => (k = 1 ∧ Qd (.lst l) h2) ∨ (k = -1 ∧ Qd (.lst l.reverse) h2)) hK sr2 (r1.mono s2) w2
  cases r2 with
  | @int k =>
    refine ⟨k, rfl, c, vs, k, rfl, rfl, sq, by rcases w3 with w3 | w3 <;> simp [w3.1], fun p hp => ?_⟩
    have g := Grow.new (o := .lst (if k = 1 then vs else vs.reverse)) sr2.sh.sF hp
    rcases w3 with ⟨rfl, w3⟩ | ⟨rfl, w3⟩
    · exact kk _ h2 _ _ _ ((s1.trans s2).trans g.f) (sr2.grow g) (.lst (SqL.of upd_same) (rl.mono g.f)) w3
    · exact kk _ h2 _ _ _ ((s1.trans s2).trans g.f) (sr2.grow g) (.lst (SqL.of upd_same) (rl.reverse.mono g.f)) w3
  | _ => exact w3.elim
/-! ### o.append(e) -/
theorem ls_appE {a b : E} {o e : Expr} {apos cpos pos : Pos} (hK : X.K = T.K) (hl : (apos.endLine == cpos.line) = true) (hs : noStar e = true)
    (hsup : noSuper o = true) (ho : PE X o (LE T X RR (wpE Γ a))) (he : PE X e (LE T X RR (wpE Γ b))) : PS X (.Expr (.Call (.Attribute o "append" apos) [e] [] cpos) pos) (LS T X RR (wpS Γ (.appE a b))) := by
  have hA := pa_cons he pa_nil (star_cons hs)
  have few : ((backTo cpos (starEach [e] X.env)).all (fun x => !x.1) && (backToKw cpos (keywordEach [] X.env)).all (fun x => x.1.isSome)
      && decide (([e] : List Expr).length + ([] : List Keyword).length + (if ([] : List Keyword).isEmpty then 0 else 1) < 30)) = true := by
    rw [star_all (es := [e]) (by simp [hs])]
    rfl
  refine PS.imp (ps_expr (pe_bm PySem.F.plainAttrs_list PySem.F.slot_list_append PySem.F.type_list_append mt_append ho hA (base_ok hsup) few hl (star_cons hs) rfl) rfl) fun D τ H ⟨F, G, σ, h, nx, rt, ct, sr, w, k, _, _⟩ => ?_
  refine ⟨F, G, σ, h, _, sr, w, fun d0 h0 v0 F0 H0 s0 sr0 r0 w0 => ?_⟩
  cases r0 with
  | @ref ad =>
    obtain ⟨⟨l0, c0⟩, w0⟩ := w0
    obtain ⟨_, _, vs0, e30, rl0⟩ := sr0.sh.cell ad _ c0
    refine ⟨.inl ⟨rfl, vs0, SqL.of e30⟩, F0, G, σ, h0, _, sr0, w0, fun d h1 v F1 H1 s1 sr1 r1 w1 => ?_⟩
    cases e1 : h1 ad with
    | none => rw [e1] at w1; exact w1.elim
    | some cc =>
      rw [e1] at w1
      cases cc with
      | obj c' fs => exact w1.elim
      | lst l =>
        obtain ⟨_, _, vs, e3, rl⟩ := sr1.sh.cell ad _ e1
        refine ⟨ad, vs, v, rfl, rfl, e3, by rw [← rl.length, ← SL_eq]; exact w1.1, ?_⟩
        exact k _ _ _ F1 _ (s0.trans s1) (sr1.write (c := .lst (l ++ [d])) e1 ⟨_, upd_same, rl.append (.one r1)⟩) w1.2
  | _ => exact w0.elim
/-! ### max of pairs -/
abbrev pairP (p : Int × Int) : PyData := .tuple [.int p.1, .int p.2]
def rMaxP (K : PySem.W.Frag) : List V → Hp → VK → Prop := fun xs H Q => ∃ (a : Addr) (vs : List V) (ps : List (Int × Int)), xs = [.ref a] ∧ SqL K H a vs ∧ DpAll K H vs (ps.map pairP) ∧ ps ≠ [] ∧ ∀ (i : Nat) (v : V) (p : Int × Int), vs[i]? = some v → ps[i]? = some p → (∀ y ∈ ps, y.1 < p.1 ∨ y.1 = p.1 ∧ y.2 ≤ p.2) → Q v H
theorem maxOf_pairs : ∀ (xs : List (Int × Int)) (x : Int × Int), PySem.W.maxOf x xs ∈ x :: xs ∧ ∀ y ∈ x :: xs, y.1 < (PySem.W.maxOf x xs).1 ∨ y.1 = (PySem.W.maxOf x xs).1 ∧ y.2 ≤ (PySem.W.maxOf x xs).2
  | [], x => ⟨by simp [PySem.W.maxOf], fun y hy => by
      rw [List.mem_singleton.mp hy]
      exact .inr ⟨rfl, Int.le_refl _⟩⟩
  | z :: r, x => by
    obtain ⟨b, hb⟩ : ∃ b, (if PySem.W.DatumOrd.lt x z = true then z else x) = b := ⟨_, rfl⟩
    have e : PySem.W.maxOf x (z :: r) = PySem.W.maxOf b r := by rw [← hb]; rfl
    obtain ⟨m1, m2⟩ := maxOf_pairs r b
    rw [e]
    have lt : PySem.W.DatumOrd.lt x z = (if x.1 = z.1 then decide (x.2 < z.2) else decide (x.1 < z.1)) := rfl
    have mb := m2 b List.mem_cons_self
    have hb' : b = z ∧ (x.1 < z.1 ∨ x.1 = z.1 ∧ x.2 < z.2) ∨ b = x ∧ ¬ (x.1 < z.1 ∨ x.1 = z.1 ∧ x.2 < z.2) := by
      rw [lt] at hb
      by_cases c : x.1 = z.1
      · rw [if_pos c] at hb
        by_cases c2 : x.2 < z.2
        · rw [if_pos (decide_eq_true c2)] at hb
          exact .inl ⟨hb.symm, .inr ⟨c, c2⟩⟩
        · rw [if_neg (by simpa using c2)] at hb
          exact .inr ⟨hb.symm, by omega⟩
      · rw [if_neg c] at hb
        by_cases c2 : x.1 < z.1
        · rw [if_pos (decide_eq_true c2)] at hb
          exact .inl ⟨hb.symm, .inl c2⟩
        · rw [if_neg (by simpa using c2)] at hb
          exact .inr ⟨hb.symm, by omega⟩
    clear hb lt e
    refine ⟨?_, fun y hy => ?_⟩
    · rcases List.mem_cons.mp m1 with h | h
      · rw [h]
        rcases hb' with ⟨h, _⟩ | ⟨h, _⟩ <;> rw [h] <;> simp
      · simp [h]
    · rcases List.mem_cons.mp hy with h | h
      · subst h
        rcases hb' with ⟨h, _⟩ | ⟨h, _⟩ <;> rw [h] at mb ⊢ <;> omega
      · rcases List.mem_cons.mp h with h | h
        · subst h
          rcases hb' with ⟨h, _⟩ | ⟨h, _⟩ <;> rw [h] at mb ⊢ <;> omega
        · exact m2 y (List.mem_cons_of_mem _ h)
theorem call_maxP (hc : X.calm = true) (hu : X.A.units + 64 < cLine) : CallR X (.builtin "max") (rMaxP X.K) := by
  intro pins s σ H xs us Q I r h
  obtain ⟨a, vs, ps, rfl, hs, hd, ne, q⟩ := h
  obtain ⟨its, rv, hl, _⟩ := I.list hs
  rw [Vals.ref1 r]
  obtain ⟨as, h4⟩ := Dp.readsAll I (ps.map pairP) _ its hd rv
  obtain ⟨x, xs, rfl⟩ : ∃ x xs, ps = x :: xs := by
    cases ps with
    | nil => exact absurd rfl ne
    | cons x xs => exact ⟨x, xs, rfl⟩
  have h5 : ReadsAll s.heap its.toArray.toList ((x :: xs).map pairP) as := by simpa using h4
  refine PySem.W.max_list_datum (α := Int × Int) (x := x) (xs := xs) (I.ok.hd hc) hl.isList ⟨as, h5⟩ (by show X.A.units + 1 + 1 < cLine; omega) fun i v h' tk hi ho hk => ?_
  obtain ⟨bs, rb⟩ := ho
  obtain ⟨cs, rc, il, _⟩ := PySem.W.readsAll_atA h5 i v hi
  have il : i < (x :: xs).length := by simpa using il
  have hp : (x :: xs)[i]? = some (x :: xs)[i] := List.getElem?_eq_getElem il
  have eg : ((x :: xs).map pairP).getD i .none = pairP ((x :: xs)[i]) := by
    rw [List.getD_eq_getElem?_getD, List.getElem?_map, hp]
    rfl
  rw [eg] at rc
  have eq := PySem.SeqAt.plain_unique _ _ v _ _ (by simp [pairP, PyData.plain, PyData.plainAll]) (PySem.W.reads_keeps hk rc) rb
  have eq : pairP ((x :: xs)[i]) = pairP (PySem.W.maxOf x xs) := eq
  have eq2 : (x :: xs)[i] = PySem.W.maxOf x xs := by
    injection eq with e1
    injection e1 with e2 e3
    injection e3 with e4 e5
    injection e2 with e6
    injection e4 with e7
    exact Prod.ext e6 e7
  have hi' : its[i]? = some v := by simpa using hi
  obtain ⟨w, hw, rw⟩ : ∃ w, vs[i]? = some w ∧ RelV w v := by
    have vl : i < vs.length := by
      rw [rv.length]
      exact (List.getElem?_eq_some_iff.mp hi').1
    obtain ⟨u, hu, ru⟩ := rv.get (List.getElem?_eq_getElem vl)
    rw [hi'] at hu
    cases hu
    exact ⟨_, List.getElem?_eq_getElem vl, ru⟩
  exact ⟨w, H, I.kept hk, rw, q i w _ hw hp (by rw [eq2]; exact (maxOf_pairs xs x).2)⟩
theorem pairs_of : ∀ {l : List D} {ps : List (Int × Int)}, pairsOf l = some ps → (∀ x ∈ l, x.pln 5 = true) ∧ D.pys l = ps.map pairP ∧ l = ps.map (fun p => .tup [.int p.1, .int p.2])
  | [], ps, h => by
    have h : [] = ps := by simpa [pairsOf] using h
    subst h
    exact ⟨fun _ hx => absurd hx List.not_mem_nil, by simp [D.pys], rfl⟩
  | d :: r, ps, h => by
    unfold pairsOf at h
    split at h
    · rename_i tl
      exact nomatch tl
    · rename_i i j r' hd
      cases hd
      cases e : pairsOf r with
      | none => rw [e] at h; cases h
      | some l =>
        rw [e] at h
        cases h
        obtain ⟨a, b, c⟩ := pairs_of e
        refine ⟨fun x hx => ?_, ?_, ?_⟩
        · rcases List.mem_cons.mp hx with z | z
          · subst z; rfl
          · exact a x z
        · simp [D.pys, D.py, b]
        · rw [List.map_cons, ← c]
    · cases h
theorem le_maxP {a : E} {e : Expr} {p pos : Pos} (hK : X.K = T.K) (hc : X.calm = true) (hu : X.A.units + 64 < cLine) (hg : Gl X "max") (hm : X.mg "max" = none) (hs : noStar e = true) (ha : PE X e (LE T X RR (wpE Γ a))) : PE X (.Call (.Name "max" p) [e] [] pos) (LE T X RR (wpE Γ (.maxP a))) := by
  refine PE.imp (pe_callB (call_maxP hc hu) hg hm boot_max (pa_cons ha pa_nil (star_cons hs)) (by decide) (by decide) (star_cons hs) rfl) fun τ H Q ⟨F, G, σ, h, Qd, sr, w, k⟩ => ⟨F, G, σ, h, _, sr, w, fun d h1 v F1 H1 s1 sr1 r1 w1 => ?_⟩
  obtain ⟨c, vs, l, rfl, sq, rl, w2⟩ := asL_of (P := fun l => (match pairsOf l with
      | some ps => ps ≠ [] ∧ ∀ m ∈ ps, (∀ y ∈ ps, y.1 < m.1 ∨ (y.1 = m.1 ∧ y.2 ≤ m.2)) → Qd (.tup [.int m.1, .int m.2]) h1
      | none => False)) hK sr1 r1 w1
  cases e0 : pairsOf l with
  | none => rw [e0] at w2; exact w2.elim
  | some ps =>
    rw [e0] at w2
    obtain ⟨ne, w2⟩ := w2
    obtain ⟨p1, p2, p3⟩ := pairs_of e0
    refine ⟨c, vs, ps, rfl, sq, ?_, ne, fun i v p hv hp hm => ?_⟩
    · rw [← p2]
      exact hK ▸ reps_dp sr1.sh.sF rl (n := 5) p1
    · have hd : l[i]? = some (.tup [.int p.1, .int p.2]) := by rw [p3, List.getElem?_map, hp]; rfl
      obtain ⟨u, hu, ru⟩ := rl.get hd
      rw [hv] at hu
      cases hu
      exact k _ h1 _ F1 H1 s1 sr1 ru (w2 p (List.mem_of_getElem? hp) hm)
/-! ### dict(pairs), and what it has at a key -/
theorem kyK_inj : ∀ {a b : Int ⊕ List Nat}, kyK a = kyK b → a = b
  | .inl a, .inl b, h => by
    have : a = b := Sum.inl.inj h
    rw [this]
  | .inr a, .inr b, h => by
    have : sOf a = sOf b := Sum.inr.inj h
    rw [sOf_inj this]
  | .inl _, .inr _, h => by cases h
  | .inr _, .inl _, h => by cases h
theorem keyD_v {F : Hp} {k : D} {v : V} {z : Int ⊕ List Nat} (r : Rep T F k v) (h : keyD k = some z) : v = kV (kyK z) := by
  cases r with
  | int => cases h; rfl
  | str => cases h; rfl
  | _ => cases h
theorem merge_new : ∀ (more acc : List (Key × V)), ((acc.map (·.1)) ++ more.map (·.1)).Nodup → mergeK acc more = acc ++ more
  | [], acc, _ => by unfold mergeK; simp
  | (k, v) :: r, acc, nd => by
    have nk : valV acc k = none := by
      cases e : valV acc k with
      | none => rfl
      | some x =>
        exfalso
        have a := valV_any k acc
        rw [e] at a
        obtain ⟨kv, m, q⟩ := List.any_eq_true.mp a
        have q := of_decide_eq_true q
        rw [List.nodup_append] at nd
        exact nd.2.2 k (List.mem_map.mpr ⟨kv, m, q⟩) k List.mem_cons_self rfl
    have e : mergeK acc ((k, v) :: r) = mergeK (putK acc k v) r := rfl
    rw [e, putK_new v nk, merge_new r (acc ++ [(k, v)]) (by simpa using nd), List.append_assoc]
    rfl
theorem pairs_reps {F H : Hp} (s : Same F H) : ∀ {l : List D} {vs : List V} {kd : List (Int ⊕ List Nat) × List D}, Reps T F l vs → pairsM l = some kd →
    ∃ (ps : List Addr) (us : List V), vs = ps.map V.ref ∧ Paired (fun p kv => SqT T.K H p [kV kv.1, kv.2]) ps ((kd.1.map kyK).zip us) ∧ kd.1.length = us.length ∧ Reps T F kd.2 us
  | [], _, kd, .nil, h => by
    cases h
    exact ⟨[], [], rfl, .nil, rfl, .nil⟩
  | x :: r, _, kd, .cons (vs := vs) rx rr, h => by
    cases rx with
    | tup sq ri =>
      rename_i l a xs
      match l, h with
      | [k, d], h =>
        cases ri with
        | cons rk rt =>
          cases rt with
          | cons rd rn =>
            cases rn
            unfold pairsM at h
            cases e1 : keyD k with
            | none => simp [e1] at h
            | some z =>
              cases e2 : pairsM r with
              | none => simp [e1, e2] at h
              | some kd' =>
                simp [e1, e2] at h
                subst h
                obtain ⟨ps, us, e, pd, le, ru⟩ := pairs_reps s rr e2
                have ev := keyD_v rk e1
                subst e ev
                exact ⟨a :: ps, _ :: us, rfl, .cons (Same.sqt s sq) pd, by simp [le], .cons rd ru⟩
      | [], h => cases h
      | [_], h => cases h
      | _ :: _ :: _ :: _, h => cases h
    | _ => cases h
theorem look_reps {F : Hp} {z : Int ⊕ List Nat} : ∀ {ks : List (Int ⊕ List Nat)} {ds : List D} {vs : List V} {d : D}, Reps T F ds vs → lookM z ks ds = some d → ∃ v, valV ((ks.map kyK).zip vs) (kyK z) = some v ∧ Rep T F d v
  | [], _, _, _, _, h => by cases h
  | _ :: _, [], _, _, .nil, h => by cases h
  | x :: ks, e :: ds, _, d, .cons (v := v) r rs, h => by
    unfold lookM at h
    by_cases c : x = z
    · rw [if_pos c] at h
      cases h
      exact ⟨v, valV_pos (by rw [c]), r⟩
    · rw [if_neg c] at h
      obtain ⟨u, a, b⟩ := look_reps rs h
      exact ⟨u, by rw [← a]; exact valV_neg (fun q => c (kyK_inj q)), b⟩
theorem le_dictP {a : E} {e : Expr} {p pos : Pos} (hK : X.K = T.K) (hc : X.calm = true) (hg : Gl X "dict") (hm : X.mg "dict" = none) (hs : noStar e = true) (ha : PE X e (LE T X RR (wpE Γ a))) :
    PE X (.Call (.Name "dict" p) [e] [] pos) (LE T X RR (wpE Γ (.dictP a))) := by
  refine PE.imp (pe_callTy (p := p) (pos := pos) (call_dictP hc) hg hm PyProof.Rows.boot_dict (pa_cons ha pa_nil (star_cons hs)) (by decide) (by decide) (star_cons hs) rfl) fun τ H Q ⟨F, G, σ, h, Qd, sr, w, k⟩ => ⟨F, G, σ, h, _, sr, w, fun d h1 v F1 H1 s1 sr1 r1 w1 => ?_⟩
  cases el : asL h1 d with
  | none => rw [el] at w1; exact False.elim w1
  | some l =>
    rw [el] at w1
    dsimp only at w1
    cases em : pairsM l with
    | none => rw [em] at w1; exact False.elim w1
    | some kd =>
      rw [em] at w1
      obtain ⟨nd, w1⟩ := w1
      obtain ⟨b, vs, rfl, sq, rl⟩ := asL_rep sr1.sh r1 el
      obtain ⟨ps, us, rfl, pd, le, ru⟩ := pairs_reps sr1.sh.sF rl em
      refine ⟨b, ps, _, rfl, hK ▸ sq, hK ▸ pd, fun q hq => ?_⟩
      have ek : ((kd.1.map kyK).zip us).map (·.1) = kd.1.map kyK := List.map_fst_zip (by rw [List.length_map, le]; exact Nat.le_refl _)
      have mg : mergeK [] ((kd.1.map kyK).zip us) = (kd.1.map kyK).zip us := by
        rw [merge_new _ [] (by
          rw [List.map_nil, List.nil_append, ek]
          exact nd.map kyK fun x y n z => n (kyK_inj z)), List.nil_append]
      rw [mg]
      have g := Grow.new (o := HO.dK ((kd.1.map kyK).zip us)) sr1.sh.sF hq (fun _ z => by cases z)
      exact k _ h1 _ _ _ (s1.trans g.f) (sr1.grow g) (.map upd_same le (ru.mono g.f)) w1
theorem le_midx {a b : E} {ea eb : Expr} {pos : Pos} (hu : X.A.units + 64 < cLine) (hb' : noSlice eb = true) (ha : PE X ea (LE T X RR (wpE Γ a))) (hb : PE X eb (LE T X RR (wpE Γ b))) : PE X (.Subscript ea eb pos) (LE T X RR (wpE Γ (.midx a b))) := by
  refine PE.imp (pe_dget (by omega) ha hb (ix_ok hb')) fun τ H Q ⟨F, G, σ, h, Qd, sr, w, k⟩ => ⟨F, G, σ, h, _, sr, w, fun d h1 v F1 H1 s1 sr1 r1 w1 => ⟨F1, _, σ, h1, _, sr1, w1, fun e h2 u F2 H2 s2 sr2 r2 w2 => ?_⟩⟩
  cases d with
  | map ks ds =>
    cases ek : keyD e with
    | none => rw [ek] at w2; exact False.elim w2
    | some z =>
      rw [ek] at w2
      dsimp only at w2
      cases em : lookM z ks ds with
      | none => rw [em] at w2; exact False.elim w2
      | some d =>
        rw [em] at w2
        cases r1 with
        | map hf le ru =>
          obtain ⟨v, ev, rv⟩ := look_reps ru em
          rename_i a vs
          refine ⟨a, v, rfl, .inl ⟨_, kyK z, .inl (sr2.sh.sF _ _ (s2 _ _ hf)), keyD_v r2 ek, ev.symm⟩, ?_⟩
          exact k _ h2 _ _ _ (s1.trans s2) sr2 (rv.mono s2) w2
  | _ => exact False.elim w2
end
end FF
namespace FF
open PySem PySem.Spec PyProof.Rows L2 PySem.NumText
/-! ### texts -/
theorem SL_line : SL = sizeLine := by rw [sizeLine_eq]; rfl
theorem sOf_len {s : List Nat} : (sOf s).length = s.length := by
  show s.toArray.size = _
  rw [List.size_toArray]
theorem sOf_cps {s : List Nat} : (sOf s).cps.toList = s := rfl
theorem decN_val {s : List Nat} : digitsVal s = decN s := rfl
theorem digS_all {s : List Nat} (h : digS s = true) : AllDigits s := fun c hc => by
  have := of_decide_eq_true (List.all_eq_true.mp h c hc)
  omega
theorem intZ_ok {s : List Nat} {n : Int} (l : s.length ≤ 640) (h : intZ s = some n) : PySem.intText? (sOf s) = some n := by
  have lo : (sOf s).length ≤ 4300 := by rw [sOf_len]; omega
  unfold intZ at h
  split at h
  · rename_i r
    split at h
    · rename_i c
      cases h
      rw [intText_neg (cs := r) (x := sOf (45 :: r)) rfl (digS_all c.2) c.1 lo, decN_val]
    · cases h
  · split at h
    · rename_i c
      cases h
      rw [intText_digits (x := sOf s) (digS_all c.2) c.1 lo, sOf_cps, decN_val]
    · cases h
theorem digZ_ok {i : Int} : sOf (digZ i) = (toString i : Str) := by
  show _ = Str.ofString (toString i)
  rw [Str.ofString_eq_toList]
  unfold sOf
  congr 2
  unfold digZ
  by_cases c : i < 0
  · rw [if_pos c]
    obtain ⟨n, rfl⟩ : ∃ n : Nat, i = Int.negSucc n := by
      cases i with
      | ofNat n => exact absurd c (by simp)
      | negSucc n => exact ⟨n, rfl⟩
    show _ = (("-" ++ Nat.repr (n + 1) : String)).toList.map Char.toNat
    rw [String.toList_append, List.map_append, Nat.toList_repr]
    rfl
  · rw [if_neg c]
    obtain ⟨n, rfl⟩ := Int.eq_ofNat_of_zero_le (show 0 ≤ i by omega)
    show _ = (Nat.repr n).toList.map Char.toNat
    rw [Nat.toList_repr]
    rfl
section
variable {X : Cx} {T : Tb} {RR : RRt} {Γ : Gam}
theorem le_sidx {a b : E} {ea eb : Expr} {pos : Pos} (hb' : PlainIxT eb) (ha : PE X ea (LE T X RR (wpE Γ a))) (hb : PE X eb (LE T X RR (wpE Γ b))) : PE X (.Subscript ea eb pos) (LE T X RR (wpE Γ (.sidx a b))) := by
  refine PE.imp (pe_item_str ha hb hb') fun τ H Q ⟨F, G, σ, h, Qd, sr, w, k⟩ => ⟨F, G, σ, h, _, sr, w, fun d h1 v F1 H1 s1 sr1 r1 w1 => ⟨F1, _, σ, h1, _, sr1, w1, fun e h2 u F2 H2 s2 sr2 r2 w2 => ?_⟩⟩
  cases r1 with
  | str =>
    rename_i s
    cases r2 with
    | int =>
      rename_i i
      obtain ⟨⟨h0, h1', h3⟩, w2⟩ := w2
      have SLe : SL = 16777216 := rfl
      refine ⟨sOf s, i, s.getD i.toNat 0, rfl, rfl, h0, by omega, by rw [sOf_len]; exact h1', ?_, k _ h2 _ _ _ (s1.trans s2) sr2 .str w2⟩
      show s.toArray[i.toNat]? = _
      rw [List.getElem?_toArray, List.getD_eq_getElem?_getD, List.getElem?_eq_getElem (by omega)]
      rfl
    | _ => exact False.elim w2
  | _ => exact False.elim w2
theorem cutS_of {s : List Nat} {i j : Int} : cutS (sOf s) (some i) (some j) = sOf ((s.drop (slP s.length i)).take (slP s.length j - slP s.length i)) := by
  unfold cutS
  rw [sOf_len, slP_eq, slP_eq]
theorem cutS_from {s : List Nat} {i : Int} : cutS (sOf s) (some i) none = sOf (s.drop (slP s.length i)) := by
  unfold cutS
  rw [sOf_len, slP_eq, (slP_none s.length).2]
  show (⟨((s.drop (slP s.length i)).take (s.length - slP s.length i)).toArray⟩ : Str) = _
  rw [List.take_of_length_le (by rw [List.length_drop]; omega)]
theorem cutS_to {s : List Nat} {j : Int} : cutS (sOf s) none (some j) = sOf (s.take (slP s.length j)) := by
  unfold cutS
  rw [sOf_len, slP_eq, (slP_none s.length).1]
  show (⟨((s.drop 0).take (slP s.length j - 0)).toArray⟩ : Str) = _
  rw [List.drop_zero, Nat.sub_zero]
theorem le_sslF {a b : E} {ea eb : Expr} {pos p2 : Pos} (ha : PE X ea (LE T X RR (wpE Γ a))) (hb : PE X eb (LE T X RR (wpE Γ b))) : PE X (.Subscript ea (.Slice (some eb) none none p2) pos) (LE T X RR (wpE Γ (.sslF a b))) := by
  refine PE.imp (pe_slice sl_str ha (po_some hb) po_none) fun τ H Q ⟨F, G, σ, h, Qd, sr, w, k⟩ => ⟨F, G, σ, h, _, sr, w, fun dx h1 vx F1 H1 s1 sr1 r1 w1 => ⟨F1, G, σ, h1, _, sr1, w1, fun dy h2 vy F2 H2 s2 sr2 r2 w2 => ?_⟩⟩
  cases r1 with
  | str =>
    rename_i s
    cases r2 with
    | int =>
      rename_i i
      refine ⟨i, rfl, sOf s, rfl, by rw [sOf_len, ← SL_line]; exact w2.1, ?_⟩
      rw [cutS_from]
      exact k _ h2 _ _ _ (s1.trans s2) sr2 .str w2.2
    | _ => exact False.elim w2
  | _ => exact False.elim w2
theorem le_sslT {a b : E} {ea eb : Expr} {pos p2 : Pos} (ha : PE X ea (LE T X RR (wpE Γ a))) (hb : PE X eb (LE T X RR (wpE Γ b))) : PE X (.Subscript ea (.Slice none (some eb) none p2) pos) (LE T X RR (wpE Γ (.sslT a b))) := by
  refine PE.imp (pe_slice sl_str ha po_none (po_some hb)) fun τ H Q ⟨F, G, σ, h, Qd, sr, w, k⟩ => ⟨F, G, σ, h, _, sr, w, fun dx h1 vx F1 H1 s1 sr1 r1 w1 => ⟨F1, G, σ, h1, _, sr1, w1, fun dy h2 vy F2 H2 s2 sr2 r2 w2 => ?_⟩⟩
  cases r1 with
  | str =>
    rename_i s
    cases r2 with
    | int =>
      rename_i i
      refine ⟨i, rfl, sOf s, rfl, by rw [sOf_len, ← SL_line]; exact w2.1, ?_⟩
      rw [cutS_to]
      exact k _ h2 _ _ _ (s1.trans s2) sr2 .str w2.2
    | _ => exact False.elim w2
  | _ => exact False.elim w2
theorem le_ssl {a b c : E} {ea eb ec : Expr} {pos p2 : Pos} (ha : PE X ea (LE T X RR (wpE Γ a))) (hb : PE X eb (LE T X RR (wpE Γ b))) (hc : PE X ec (LE T X RR (wpE Γ c))) : PE X (.Subscript ea (.Slice (some eb) (some ec) none p2) pos) (LE T X RR (wpE Γ (.ssl a b c))) := by
  refine PE.imp (pe_slice sl_str ha (po_some hb) (po_some hc)) fun τ H Q ⟨F, G, σ, h, Qd, sr, w, k⟩ => ⟨F, G, σ, h, _, sr, w, fun dx h1 vx F1 H1 s1 sr1 r1 w1 => ⟨F1, G, σ, h1, _, sr1, w1, fun dy h2 vy F2 H2 s2 sr2 r2 w2 => ?_⟩⟩
  cases r2 with
  | int =>
    rename_i i
    refine ⟨i, rfl, F2, G, σ, h2, _, sr2, w2, fun dz h3 vz F3 H3 s3 sr3 r3 w3 => ?_⟩
    cases r1 with
    | str =>
      rename_i s
      cases r3 with
      | int =>
        rename_i j
        refine ⟨j, rfl, sOf s, rfl, by rw [sOf_len, ← SL_line]; exact w3.1, ?_⟩
        rw [cutS_of]
        exact k _ h3 _ _ _ ((s1.trans s2).trans s3) sr3 .str w3.2
      | _ => exact False.elim w3
    | _ => exact False.elim w3
  | _ => exact False.elim w2
def sinW (x y : D) (Q : D → Prop) : Prop := match y with
  | .str s => match x with
    | .str [c] => Q (.bl (decide (c ∈ s)))
    | _ => False
  | _ => False
theorem op_sin : OpR X (compareOp .In) (L2op T X fun x y h Q => sinW x y fun d => Q d h) := by
  intro pins s σ H x y v u Q I rx ry h
  obtain ⟨F, G, σ', h, τ, dx, dy, Qd, sr, r1, r2, w, k⟩ := h
  cases r2 with
  | str =>
    rename_i z
    cases r1 with
    | str =>
      rename_i t
      match t, w with
      | [c], w => exact op_in_sign pins s σ H _ _ v u Q I rx ry ⟨c, sOf z, rfl, rfl, k _ h _ F H (Same.refl _) sr .bl w⟩
      | [], w => exact False.elim w
      | _ :: _ :: _, w => exact False.elim w
    | _ => exact False.elim w
  | _ => cases r1 <;> exact False.elim w
theorem le_sin {a b : E} {ea eb : Expr} {pos : Pos} (hm : behindInMarks .In eb = false) (ha : PE X ea (LE T X RR (wpE Γ a))) (hb : PE X eb (LE T X RR (wpE Γ b))) : PE X (.Compare ea [.In] [eb] pos) (LE T X RR (wpE Γ (.sin a b))) :=
  PE.imp (pe_cmpR (op_sin (T := T)) ha hb hm) fun τ H Q h => le_op (f := fun x y h Q => sinW x y fun d => Q d h) h
theorem lt_sin {a b : E} {ea eb : Expr} {pos : Pos} (hm : behindInMarks .In eb = false) (ha : PE X ea (LE T X RR (wpE Γ a))) (hb : PE X eb (LE T X RR (wpE Γ b))) : PT X (.Compare ea [.In] [eb] pos) (LT T X RR (wpE Γ (.sin a b))) := by
  refine PT.imp (pt_cmpR (op_sin (T := T)) ha hb hm) fun τ H Q ⟨F, G, σ, h, Qd, sr, w, k⟩ => ?_
  have q0 : LE T X RR (wpE Γ (.sin a b)) τ H (fun x H' => ∃ k, x = .bl k ∧ Q k H') := by
    refine ⟨F, G, σ, h, (fun x h' => match x with | .bl k => Qd k h' | _ => False), sr, w, fun d h' v F' H' s sr' r q => ?_⟩
    cases r with
    | bl => exact ⟨_, rfl, k _ h' F' H' s sr' q⟩
    | _ => exact False.elim q
  exact le_op (f := fun x y h Q => sinW x y fun d => Q d h) q0
theorem le_strI {a : E} {e : Expr} {p pos : Pos} (hg : Gl X "str") (hm : X.mg "str" = none) (hs : noStar e = true) (ha : PE X e (LE T X RR (wpE Γ a))) : PE X (.Call (.Name "str" p) [e] [] pos) (LE T X RR (wpE Γ (.strI a))) := by
  refine PE.imp (pe_callTy (p := p) (pos := pos) call_str_int hg hm PyProof.Rows.boot_str (pa_cons ha pa_nil (star_cons hs)) (by decide) (by decide) (star_cons hs) rfl) fun τ H Q ⟨F, G, σ, h, Qd, sr, w, k⟩ => ⟨F, G, σ, h, _, sr, w, fun d h1 v F1 H1 s1 sr1 r1 w1 => ?_⟩
  cases r1 with
  | int =>
    refine ⟨_, rfl, w1.1, ?_⟩
    rw [← digZ_ok]
    exact k _ h1 _ F1 H1 s1 sr1 .str w1.2
  | _ => exact False.elim w1
theorem le_intt {a : E} {e : Expr} {p pos : Pos} (hg : Gl X "int") (hm : X.mg "int" = none) (hs : noStar e = true) (ha : PE X e (LE T X RR (wpE Γ a))) : PE X (.Call (.Name "int" p) [e] [] pos) (LE T X RR (wpE Γ (.intt a))) := by
  refine PE.imp (pe_callTy (p := p) (pos := pos) call_int_str hg hm PyProof.Rows.boot_int (pa_cons ha pa_nil (star_cons hs)) (by decide) (by decide) (star_cons hs) rfl) fun τ H Q ⟨F, G, σ, h, Qd, sr, w, k⟩ => ⟨F, G, σ, h, _, sr, w, fun d h1 v F1 H1 s1 sr1 r1 w1 => ?_⟩
  cases r1 with
  | str =>
    rename_i s
    dsimp only at w1
    cases e1 : intZ s with
    | none => rw [e1] at w1; exact False.elim w1
    | some n =>
      rw [e1] at w1
      refine ⟨sOf s, n, rfl, intZ_ok w1.1 e1, by rw [sOf_len]; exact w1.1, k _ h1 _ F1 H1 s1 sr1 .int w1.2⟩
  | _ => exact False.elim w1
end
end FF
namespace FF
open PySem PySem.Spec PyProof.Rows L2
/-! ### a text, sign by sign, with its places -/
def IteT (x : PySem.Str) : L2.It := ⟨fun i _ => i < x.cps.size, fun i H v H' => ∃ T c, v = .ref T ∧ H T = none ∧ x.cps[i]? = some c ∧ H' = upd H T (.tup [.int (i : Nat), .str ⟨#[c]⟩]), fun i _ => i = x.cps.size⟩
theorem turn_enumT {P : Program} {w : World} {K : PySem.W.Frag} {elts : List Expr} {kk : Nat} {tpos : Pos} (x : PySem.Str) (t : Tok) (e it : Addr) (ty : String) (hty : ty = "str_ascii_iterator" ∨ ty = "str_iterator") :
    Turn P w K (.Tuple elts kk tpos) (IteT x) [e, it] e (fun i h => (∃ old, IsEnum h e it ((i : Nat) : Int) old) ∧ h.IsStrIter it ty x t i ∧ e ≠ it) where
  mem := by simp
  obj := fun i h st b hb => by
    obtain ⟨⟨old, he⟩, ⟨o, ho, hc, hd⟩, _⟩ := st
    have e' : b = e ∨ b = it := by simpa using hb
    rcases e' with z | z
    · rw [z]; exact ⟨_, he, fun v q => nomatch q⟩
    · rw [z]; exact ⟨o, ho, fun v q => by rw [hd] at q; cases q⟩
  keep := fun i h h' st k => by
    obtain ⟨⟨old, he⟩, ⟨o, ho, r⟩, hne⟩ := st
    exact ⟨⟨old, k e (by simp) _ he⟩, ⟨o, k it (by simp) o ho, r⟩, hne⟩
  item := by
    intro X hP hw hK hc i pins s σ H E I hf st hg
    subst hP hw hK
    obtain ⟨⟨old, he⟩, hit, hne⟩ := st
    have hel : e < s.heap.objs.size := Heap.lt_size he
    have hil : it < s.heap.objs.size := by obtain ⟨_, q, _⟩ := hit; exact Heap.lt_size q
    have hef : e ∉ [it] := fun z => hne (List.mem_singleton.mp z)
    rcases hty with z | z
    · subst z
      refine wpAny_pyNext_enum_itemD (Draws.strAscii (A := X.A.in1) (I.ok.hd hc) it x t) he hit hg hne hef ?_
      intro xv h' tk hx ho hit' hT hsz hk
      obtain ⟨c, u, hcx, rfl⟩ := hx
      refine ⟨_, rfl, wpAny_letOwnedTupleGo_enum (s := { s with heap := h', toks := tk + 1 }) ho fun h'' he' sb => ?_⟩
      have hT2 : h''.get? s.heap.objs.size = some { cls := .type "tuple", data := .seq #[.int i tk, .str ⟨#[c]⟩ u] } := (sb.2 _ (Nat.ne_of_gt hel)).trans hT
      have new : ObjOk X.prog X.w (upd H s.heap.objs.size (.tup [.int (i : Nat), .str ⟨#[c]⟩])) h'' s.heap.objs.size (.tup [.int (i : Nat), .str ⟨#[c]⟩]) :=
        ⟨by show 2 ≤ sizeLine; decide, [.int i tk, .str ⟨#[c]⟩ u], .cons ⟨_, rfl⟩ (.cons ⟨_, rfl⟩ .nil), ⟨_, hT2, rfl, _, rfl⟩⟩
      have I1 : Inv X pins σ (upd H s.heap.objs.size (.tup [.int (i : Nat), .str ⟨#[c]⟩])) { s with heap := h'', toks := tk + 1 } :=
        I.turnedNew (ch := [e, it]) (fun b ob hb q => (sb.2 b (fun z => hb (by simp [z]))).trans (hk b ob (fun z => hb (by simp [z])) (fun z => hb (by simp [z])) q)) hf (Nat.le_refl _) new
      refine ⟨.ref s.heap.objs.size, _, I1, rfl, ⟨_, c, rfl, I.hok.fresh (Nat.le_refl _), hcx, rfl⟩, ⟨⟨.str ⟨#[c]⟩ u, ?_⟩, ?_, hne⟩, fun b hb => ?_⟩
      · have e1 : ((i + 1 : Nat) : Int) = (i : Int) + 1 := by omega
        rw [e1]; exact he'
      · obtain ⟨o, q, r⟩ := hit'
        exact ⟨o, (sb.2 it (Ne.symm hne)).trans q, r⟩
      · have hb' : b < s.heap.objs.size := by
          have e' : b = e ∨ b = it := by simpa using hb
          rcases e' with z | z
          · rw [z]; exact hel
          · rw [z]; exact hil
        rw [upd_ne (Nat.ne_of_lt hb')]
        exact (hf b hb).1
    · subst z
      refine wpAny_pyNext_enum_itemD (Draws.strWide (A := X.A.in1) (I.ok.hd hc) it x t) he hit hg hne hef ?_
      intro xv h' tk hx ho hit' hT hsz hk
      obtain ⟨c, u, hcx, rfl⟩ := hx
      refine ⟨_, rfl, wpAny_letOwnedTupleGo_enum (s := { s with heap := h', toks := tk + 1 }) ho fun h'' he' sb => ?_⟩
      have hT2 : h''.get? s.heap.objs.size = some { cls := .type "tuple", data := .seq #[.int i tk, .str ⟨#[c]⟩ u] } := (sb.2 _ (Nat.ne_of_gt hel)).trans hT
      have new : ObjOk X.prog X.w (upd H s.heap.objs.size (.tup [.int (i : Nat), .str ⟨#[c]⟩])) h'' s.heap.objs.size (.tup [.int (i : Nat), .str ⟨#[c]⟩]) :=
        ⟨by show 2 ≤ sizeLine; decide, [.int i tk, .str ⟨#[c]⟩ u], .cons ⟨_, rfl⟩ (.cons ⟨_, rfl⟩ .nil), ⟨_, hT2, rfl, _, rfl⟩⟩
      have I1 : Inv X pins σ (upd H s.heap.objs.size (.tup [.int (i : Nat), .str ⟨#[c]⟩])) { s with heap := h'', toks := tk + 1 } :=
        I.turnedNew (ch := [e, it]) (fun b ob hb q => (sb.2 b (fun z => hb (by simp [z]))).trans (hk b ob (fun z => hb (by simp [z])) (fun z => hb (by simp [z])) q)) hf (Nat.le_refl _) new
      refine ⟨.ref s.heap.objs.size, _, I1, rfl, ⟨_, c, rfl, I.hok.fresh (Nat.le_refl _), hcx, rfl⟩, ⟨⟨.str ⟨#[c]⟩ u, ?_⟩, ?_, hne⟩, fun b hb => ?_⟩
      · have e1 : ((i + 1 : Nat) : Int) = (i : Int) + 1 := by omega
        rw [e1]; exact he'
      · obtain ⟨o, q, r⟩ := hit'
        exact ⟨o, (sb.2 it (Ne.symm hne)).trans q, r⟩
      · have hb' : b < s.heap.objs.size := by
          have e' : b = e ∨ b = it := by simpa using hb
          rcases e' with z | z
          · rw [z]; exact hel
          · rw [z]; exact hil
        rw [upd_ne (Nat.ne_of_lt hb')]
        exact (hf b hb).1
  done := by
    intro X hP hw hK hc i pins s σ H E I hf st hg
    subst hP hw hK
    obtain ⟨⟨old, he⟩, hit, hne⟩ := st
    obtain ⟨f0, f1, f2, f3, f4, f5⟩ := hf it (by simp)
    have hi : i = x.cps.size := hg
    subst hi
    rcases hty with z | z
    · subst z
      exact wpAny_pyNext_enum_endD (Draws.strAscii (A := X.A.in1) (I.ok.hd hc) it x t) he hit fun h' eb => ⟨rfl, I.turned (t' := s.toks) (fun b o hb q => eb b o hb q) f0 f1 f3 f4 f5⟩
    · subst z
      exact wpAny_pyNext_enum_endD (Draws.strWide (A := X.A.in1) (I.ok.hd hc) it x t) he hit fun h' eb => ⟨rfl, I.turned (t' := s.toks) (fun b o hb q => eb b o hb q) f0 f1 f3 f4 f5⟩
  self := fun A i s Q E st h => let ⟨⟨_, he⟩, _⟩ := st; wpAny_pyIter_enum he h
def iEnumT (ta : TA) : TI := fun σ H R => ta σ H fun vs H1 => ∃ x : PySem.Str, vs = [.str x] ∧ R (IteT x) H1
theorem strIterType_or (x : PySem.Str) : strIterType x = "str_ascii_iterator" ∨ strIterType x = "str_iterator" := by
  unfold strIterType
  split
  · exact .inl rfl
  · exact .inr rfl
theorem pi_enumT {X : Cx} {e : Expr} {ta : TA} {p pos tpos : Pos} {elts : List Expr} {kk : Nat} (hg : Gl X "enumerate") (hm : X.mg "enumerate" = none) (ha : PA X [e] ta) (hs : starEach [e] X.env = [(false, eval e X.env)] := by rfl) :
    PI X (.Tuple elts kk tpos) (.Call (.Name "enumerate" p) [e] [] pos) (iEnumT ta) := by
  refine ⟨fun pins s σ H R I h => ?_⟩
  refine Call_ (ld_blt I hg hm boot_enumerate (PyProof.Rows.callWith_type1 (thn (ha.run pos pins s σ H _ I h) fun us s1 ⟨vs, H1, I1, r1, q1⟩ => ?_) hs rfl))
  obtain ⟨x, ex, q⟩ := q1
  subst ex
  cases r1 with
  | cons r rr =>
    cases rr
    obtain ⟨t, rfl⟩ := r
    refine call_enumerate_str fun h' he hit hsz hk => wpAny_pyIter_enum he ?_
    have I2 : Inv X pins σ H1 { s1 with heap := h' } := I1.kept (t' := s1.toks) hk
    refine ⟨s1.heap.objs.size + 1, [s1.heap.objs.size + 1, s1.heap.objs.size], _, _, H1, rfl, I2, turn_enumT x t (s1.heap.objs.size + 1) s1.heap.objs.size (strIterType x) (strIterType_or x), ⟨⟨.none, he⟩, hit, Nat.succ_ne_self _⟩, fun b hb => ?_, q⟩
    have e' : b = s1.heap.objs.size + 1 ∨ b = s1.heap.objs.size := by simpa using hb
    have hle : s1.heap.objs.size ≤ b := by
      rcases e' with z | z
      · rw [z]; exact Nat.le_add_right _ _
      · rw [z]; exact Nat.le_refl _
    exact I1.fpOk hle (I1.hok.fresh hle)
theorem sOf_size {s : List Nat} : (sOf s).cps.size = s.length := rfl
theorem sOf_get {s : List Nat} {i : Nat} : (sOf s).cps[i]? = s[i]? := by
  show (List.toArray s)[i]? = _
  exact List.getElem?_toArray
theorem sgnD_len {s : List Nat} : (sgnD s).length = s.length := List.length_map ..
theorem gives_str {T : Tb} {F : Hp} {s : List Nat} : Gives T F (Its (sOf s)) (sgnD s) where
  go := fun i H hi sF => by rw [sgnD_len] at hi; exact hi
  yld := fun i H F1 x H' d e s1 sF ⟨e1, c, e2, e3⟩ => by
    subst e1 e3
    rw [sOf_get] at e2
    unfold sgnD at e
    rw [List.getElem?_map, e2] at e
    cases e
    exact ⟨F1, Grow.refl sF, .str⟩
  stop := fun H sF => by rw [sgnD_len]; exact Nat.le_refl _
theorem gives_enumT {T : Tb} {F : Hp} {s : List Nat} : Gives T F (IteT (sOf s)) (enumD (sgnD s)) where
  go := fun i H hi sF => by
    have e : (enumD (sgnD s)).length = s.length := by simp [enumD, List.length_zipWith, sgnD]
    rw [e] at hi
    exact hi
  yld := fun i H F1 x H' d e s1 sF ⟨p, c, e1, n, e2, e3⟩ => by
    subst e1 e3
    rw [sOf_get] at e2
    have h1 := (List.getElem?_eq_some_iff.mp e2).1
    unfold enumD at e
    have q2 : (List.range (sgnD s).length)[i]? = some i := by rw [sgnD_len, List.getElem?_range h1]
    have q : (sgnD s)[i]? = some (.str [c]) := by unfold sgnD; rw [List.getElem?_map, e2]; rfl
    rw [List.getElem?_zipWith, q2, q] at e
    cases e
    have g := Grow.new (o := .tup [.int (i : Nat), .str ⟨#[c]⟩]) sF n
    exact ⟨_, g, .tup (SqT.of upd_same) (.cons .int (.cons .str .nil))⟩
  stop := fun H sF => by
    have e : (enumD (sgnD s)).length = s.length := by simp [enumD, List.length_zipWith, sgnD]
    rw [e]
    rfl
section
variable {X : Cx} {T : Tb} {RR : RRt} {tg : Expr}
theorem li_sgn {Γ : Gam} {a : E} {e : Expr} (ha : PE X e (LE T X RR (wpE Γ a))) : PI X tg e (LI T X RR (wpI Γ (.sgn a))) := by
  refine PI.imp (pi_str ha) fun τ H Q ⟨F, G, σ, h, Kd, sr, w, k⟩ => ⟨F, G, σ, h, _, sr, w, fun d h1 v F1 H1 s1 sr1 r1 w1 => ?_⟩
  cases r1 with
  | str => exact ⟨_, rfl, k _ h1 _ F1 H1 s1 sr1 gives_str w1⟩
  | _ => exact False.elim w1
theorem li_enumS {Γ : Gam} {a : E} {e : Expr} {p pos tpos : Pos} {elts : List Expr} {kk : Nat} (hg : Gl X "enumerate") (hm : X.mg "enumerate" = none) (hs : noStar e = true) (ha : PE X e (LE T X RR (wpE Γ a))) : PI X (.Tuple elts kk tpos) (.Call (.Name "enumerate" p) [e] [] pos) (LI T X RR (wpI Γ (.enumS a))) := by
  refine PI.imp (pi_enumT hg hm (la_cons hs ha (la_nil (Γ := Γ))) (star1 hs)) fun τ H Q ⟨F, G, σ, h, Kd, sr, w, k⟩ => ?_
  refine ⟨F, G, σ, h, (fun ds h => match ds with | [.str l] => Kd (enumD (sgnD l)) h | _ => False), sr, ?_, fun ds h1 vs F1 H1 _ s1 sr1 r1 w1 => ?_⟩
  · have w : wpE Γ a σ h (fun x h => match x with
      | .str l => Kd (enumD (sgnD l)) h
      | _ => False) (fun x h' => RR.R x σ h') := w
    have e : (fun (x : D) (h : AH) => wpEs Γ .nil σ h (fun xs h => (match x :: xs with | [.str l] => Kd (enumD (sgnD l)) h | _ => False)) (fun x h' => RR.R x σ h')) = (fun x h => match x with
      | .str l => Kd (enumD (sgnD l)) h
      | _ => False) := by
      funext x h
      cases x <;> rfl
    show wpE Γ a σ h (fun x h => wpEs Γ .nil σ h (fun xs h => (match x :: xs with | [.str l] => Kd (enumD (sgnD l)) h | _ => False)) (fun x h' => RR.R x σ h')) (fun x h' => RR.R x σ h')
    rw [e]; exact w
  · dsimp only at w1
    split at w1
    · cases r1 with
      | cons r r' =>
        cases r'
        cases r with
        | str => exact ⟨_, rfl, k _ h1 _ F1 H1 s1 sr1 gives_enumT w1⟩
    · exact w1.elim
/-! ### list(text) -/
theorem call_listS (hc : X.calm = true) : CallR X (.type "list") (fun xs H Q => ∃ s : List Nat, xs = [.str (sOf s)] ∧ s.length ≤ SL ∧ ∀ q, H q = none → Q (.ref q) (upd H q (.lst (s.map fun c => V.str (sOf [c]))))) := by
  intro pins s σ H xs us Q I r h
  obtain ⟨z, rfl, hz, q⟩ := h
  obtain ⟨u, rfl, t, rfl⟩ := vals1 r
  have zl : (sOf z).cps.size ≤ sizeLine := by rw [sOf_size]; exact Nat.le_trans hz (by decide)
  refine call_list_str (I.ok.hd hc) _ t (hn := zl) fun h' tk acc' c' hk hS hacc => ?_
  refine ⟨.ref s.heap.objs.size, upd H s.heap.objs.size (.lst (z.map fun c => V.str (sOf [c]))), I.laid hk (Nat.le_refl _) (show ObjOk X.prog X.w _ _ _ (.lst (z.map fun c => V.str (sOf [c]))) from ⟨?_, acc'.toList, c', ?_, ?_⟩), rfl, q _ (I.hok.fresh (Nat.le_refl _))⟩
  · rw [List.length_map]; exact zl
  · have el : acc'.toList.length = acc'.size := by simp
    refine vals_of_at (by rw [List.length_map, el, hacc.1, sOf_size]) fun j x w h1 h2 => ?_
    obtain ⟨c, u, hcx, rfl⟩ := hacc.2 j w (by rw [← Array.getElem?_toList]; exact h2)
    rw [sOf_get] at hcx
    rw [List.getElem?_map, hcx] at h1
    cases h1
    exact ⟨u, rfl⟩
  · rw [Array.toArray_toList]; exact hS
theorem Reps.signs {T : Tb} {F : Hp} : ∀ {s : List Nat}, Reps T F (sgnD s) (s.map fun c => V.str (sOf [c]))
  | [] => .nil
  | _ :: _ => .cons .str Reps.signs
theorem le_listS {Γ : Gam} {a : E} {e : Expr} {p pos : Pos} (hc : X.calm = true) (hg : Gl X "list") (hm : X.mg "list" = none) (hs : noStar e = true) (ha : PE X e (LE T X RR (wpE Γ a))) : PE X (.Call (.Name "list" p) [e] [] pos) (LE T X RR (wpE Γ (.listS a))) := by
  refine PE.imp (pe_callTy (p := p) (pos := pos) (call_listS hc) hg hm PyProof.Rows.boot_list (pa_cons ha pa_nil (star_cons hs)) (by decide) (by decide) (star_cons hs) rfl) fun τ H Q ⟨F, G, σ, h, Qd, sr, w, k⟩ => ⟨F, G, σ, h, _, sr, w, fun d h1 v F1 H1 s1 sr1 r1 w1 => ?_⟩
  cases r1 with
  | @str z =>
    refine ⟨z, rfl, w1.1, fun q hq => ?_⟩
    have g := Grow.new (o := .lst (z.map fun c => V.str (sOf [c]))) sr1.sh.sF hq
    exact k _ h1 _ _ _ (s1.trans g.f) (sr1.grow g) (.lst (SqL.of upd_same) Reps.signs) w1.2
  | _ => exact False.elim w1
/-! ### {"..": c, ..}.get(x), .get(x, y) -/
def cvV : D → V
  | .str s => .str (sOf s)
  | .int i => .int i
  | _ => .non
def cvB : D → Bool
  | .str _ => true
  | .int _ => true
  | _ => false
theorem cvV_ok {F : Hp} : ∀ {d : D}, cvB d = true → Rep T F d (cvV d)
  | .str _, _ => .str
  | .int _, _ => .int
  | .non, h => by cases h
  | .bl _, h => by cases h
  | .tup _, h => by cases h
  | .lst _, h => by cases h
  | .obj _ _, h => by cases h
  | .ref _, h => by cases h
  | .fn _, h => by cases h
  | .clo _ _, h => by cases h
  | .odd _, h => by cases h
  | .map _ _, h => by cases h
def chkCn : D → Expr → Bool
  | .str s, x => match x with
    | .Constant (.str a) _ _ => decide (sOf s = a)
    | _ => false
  | .int i, x => match x with
    | .Constant (.int j) _ _ => decide (i = j)
    | _ => false
  | _, _ => false
def chkPs : List (List Nat × D) → List (Option Expr) → List Expr → Bool
  | [], ks, vs => ks.isEmpty && vs.isEmpty
  | p :: ps, ks, vs => match ks, vs with
    | some (.Constant (.str a) _ _) :: ks, x :: vs => decide (sOf p.1 = a) && (chkCn p.2 x && chkPs ps ks vs)
    | _, _ => false
theorem chkCn_ok {d : D} {x : Expr} (h : chkCn d x = true) : cvB d = true ∧ PE X x (tC (cvV d)) := by
  unfold chkCn at h
  split at h
  · split at h
    · have e := of_decide_eq_true h
      subst e
      exact ⟨rfl, pe_str⟩
    · cases h
  · split at h
    · have e := of_decide_eq_true h
      subst e
      exact ⟨rfl, pe_int⟩
    · cases h
  · cases h
def trsP (ps : List (List Nat × D)) : List (TE × TE) := ps.map fun p => (tC (.str (sOf p.1)), tC (cvV p.2))
def prsP (ps : List (List Nat × D)) : List (Key × V) := ps.map fun p => ((Sum.inr (sOf p.1) : Key), cvV p.2)
theorem chkPs_ok {pos : Pos} : ∀ {ps : List (List Nat × D)} {ks : List (Option Expr)} {vs : List Expr}, chkPs ps ks vs = true → PPs X pos ks vs (trsP ps) ∧ (∀ p ∈ ps, cvB p.2 = true) ∧ ks.length = ps.length ∧ vs.length = ps.length ∧ ks.all (·.isSome) = true
  | [], ks, vs, h => by
    unfold chkPs at h
    obtain ⟨h1, h2⟩ := Bool.and_eq_true_iff.mp h
    obtain rfl := List.isEmpty_iff.mp h1
    obtain rfl := List.isEmpty_iff.mp h2
    exact ⟨pps_nil, (fun _ z => by cases z), rfl, rfl, rfl⟩
  | p :: ps, ks, vs, h => by
    unfold chkPs at h
    split at h
    · obtain ⟨h1, h⟩ := Bool.and_eq_true_iff.mp h
      obtain ⟨h2, h3⟩ := Bool.and_eq_true_iff.mp h
      have e := of_decide_eq_true h1
      subst e
      obtain ⟨c1, c2⟩ := chkCn_ok (X := X) h2
      obtain ⟨i1, i2, i3, i4, i5⟩ := chkPs_ok (pos := pos) h3
      refine ⟨pps_cons pe_str c2 i1, fun q hq => ?_, by rw [List.length_cons, List.length_cons, i3], by rw [List.length_cons, List.length_cons, i4], by rw [List.all_cons, i5]; rfl⟩
      rcases List.mem_cons.mp hq with z | z
      · rw [z]; exact c1
      · exact i2 q z
    · cases h
theorem trsP_run {τ : L2.St} : ∀ {ps : List (List Nat × D)} {H : Hp} {Q : List (V × V) → Hp → Prop}, Q (ps.map fun p => (V.str (sOf p.1), cvV p.2)) H → tPairs (trsP ps) τ H Q
  | [], _, _, q => q
  | _ :: ps, H, Q, q => trsP_run (ps := ps) (H := H) (Q := fun xs H => Q (_ :: xs) H) q
theorem putK_new {kvs : List (Key × V)} {k : Key} {v : V} (h : k ∉ kvs.map (·.1)) : putK kvs k v = kvs ++ [(k, v)] := by
  unfold putK
  rw [if_neg]
  intro z
  obtain ⟨x, hx, e⟩ := List.any_eq_true.mp z
  exact h (List.mem_map.mpr ⟨x, hx, of_decide_eq_true e⟩)
theorem mergeK_nd : ∀ {more acc : List (Key × V)}, ((acc ++ more).map (·.1)).Nodup → mergeK acc more = acc ++ more
  | [], acc, _ => (List.append_nil acc).symm
  | p :: r, acc, h => by
    have h' : (acc.map (·.1) ++ p.1 :: r.map (·.1)).Nodup := by rw [List.map_append, List.map_cons] at h; exact h
    have n : p.1 ∉ acc.map (·.1) := fun z => (List.nodup_append.mp h').2.2 _ z _ (List.mem_cons_self ..) rfl
    show mergeK (putK acc p.1 p.2) r = _
    rw [putK_new n, mergeK_nd (acc := acc ++ [(p.1, p.2)]) (by rw [List.append_assoc]; exact h), List.append_assoc]
    rfl
theorem prsP_keys {ps : List (List Nat × D)} (h : (ps.map (·.1)).Nodup) : ((prsP ps).map (·.1)).Nodup := by
  unfold prsP
  rw [List.map_map]
  have e : ((fun x : Key × V => x.1) ∘ fun p : List Nat × D => ((Sum.inr (sOf p.1) : Key), cvV p.2)) = (fun s : List Nat => (Sum.inr (sOf s) : Key)) ∘ (fun p : List Nat × D => p.1) := rfl
  rw [e, ← List.map_map]
  exact List.Pairwise.map _ (fun a b hab z => hab (sOf_inj (Sum.inr.inj z))) h
theorem prsP_val {s : List Nat} : ∀ {ps : List (List Nat × D)}, valV (prsP ps) (Sum.inr (sOf s)) = (ps.lookup s).map cvV
  | [] => rfl
  | p :: ps => by
    rw [List.lookup_cons]
    cases c : s == p.1 with
    | true =>
      have e := (beq_iff_eq.mp c).symm
      exact valV_pos (show (Sum.inr (sOf p.1) : Key) = Sum.inr (sOf s) by rw [e])
    | false =>
      have ne : ¬ (Sum.inr (sOf p.1) : Key) = Sum.inr (sOf s) := fun z => (beq_eq_false_iff_ne.mp c) (sOf_inj (Sum.inr.inj z)).symm
      rw [show prsP (p :: ps) = ((Sum.inr (sOf p.1) : Key), cvV p.2) :: prsP ps from rfl, valV_neg ne]
      exact prsP_val
theorem lookup_cvB {s : List Nat} {d : D} : ∀ {ps : List (List Nat × D)}, (∀ p ∈ ps, cvB p.2 = true) → ps.lookup s = some d → cvB d = true
  | [], _, e => by cases e
  | p :: ps, h, e => by
    rw [List.lookup_cons] at e
    split at e
    · cases e
      exact h p (List.mem_cons_self ..)
    · exact lookup_cvB (fun q hq => h q (List.mem_cons_of_mem _ hq)) e
theorem rep_look {F : Hp} {ps : List (List Nat × D)} {s : List Nat} {y : D} {u : V} (hc : ∀ p ∈ ps, cvB p.2 = true) (r : Rep T F y u) : Rep T F ((ps.lookup s).getD y) (((ps.lookup s).map cvV).getD u) := by
  cases e : ps.lookup s with
  | none => exact r
  | some d => exact cvV_ok (lookup_cvB hc e)
/-- a new dict stands -/
theorem disp_new {Γ : Gam} {ps : List (List Nat × D)} {F G : Hp} {σ : Env} {h : AH} {τ : L2.St} {H : Hp} {Q : VK} (nd : (ps.map (·.1)).Nodup) (hl : ps.length ≤ 15) (sr : SR T (RR.lk X) F G σ h τ H)
    (kk : ∀ q, H q = none → SR T (RR.lk X) (upd F q (.dK (prsP ps))) G σ h τ (upd H q (.dK (prsP ps))) → Same F (upd F q (.dK (prsP ps))) → (upd F q (.dK (prsP ps))) q = some (.dK (prsP ps)) → Q (.ref q) (upd H q (.dK (prsP ps)))) : tDisp (trsP ps) τ H Q := by
  intro q hq
  refine trsP_run ⟨upd_same, prsP ps, ?_, by unfold prsP; rw [List.length_map]; exact hl, ?_⟩
  · unfold prsP
    rw [List.map_map]
    rfl
  · rw [mergeK_nd (by rw [List.nil_append]; exact prsP_keys nd), List.nil_append, upd_upd]
    have g := Grow.new (o := HO.dK (prsP ps)) sr.s.sh.sF hq (fun _ z => by cases z)
    exact kk q hq (sr.grow g) g.f upd_same
theorem le_dgetN {Γ : Gam} {i : Nat} {ps : List (List Nat × D)} {x : Str} {ks : List (Option Expr)} {vs : List Expr} {p apos dpos cpos : Pos} (hc : chkPs ps ks vs = true) (nd : (ps.map (·.1)).Nodup) (h0 : ps ≠ []) (hl : ps.length ≤ 15) (hu : X.A.units + 64 < cLine)
    (hN : X.N[i]? = some x) (hv : Vis X.env.scope x) (hd : (x == ("__debug__" : Str)) = false) (hcd : (x == ("__classdict__" : Str)) = false) (hln : (apos.endLine == cpos.line) = true) :
    PE X (.Call (.Attribute (.Dict ks vs dpos) "get" apos) [.Name x p] [] cpos) (LE T X RR (wpE Γ (.dgetN ps (.var i)))) := by
  obtain ⟨c1, c2, c3, c4, c5⟩ := chkPs_ok (X := X) (pos := dpos) hc
  have hks : ks ≠ [] := fun z => by
    subst z
    exact h0 (List.length_eq_zero_iff.mp c3.symm)
  refine PE.imp (pe_dget1 (by omega) (pe_disp c1 c5 (by rw [c3, c4]) hks (by rw [c3]; exact hl)) (pe_var (pos := p) hN hv hd hcd) ⟨rfl, rfl, hln, rfl⟩) fun τ H Q ⟨F, G, σ, h, Qd, sr, w, kk⟩ => ?_
  have w : (match σ.at i with
    | .val d => (match d with
      | .str s => Qd ((ps.lookup s).getD .non) h
      | _ => False)
    | _ => False) := w
  cases e0 : σ.at i with
  | val d =>
    rw [e0] at w
    obtain ⟨v, v1, r⟩ := sr.val e0
    cases r with
    | @str s =>
      refine disp_new (Γ := Γ) nd hl sr fun q hq sr1 s1 eq => ?_
      refine ⟨q, rfl, .inl ⟨_, .inl upd_same⟩, _, v1, _, DGet.k (k := (Sum.inr (sOf s) : Key)) upd_same, ?_⟩
      rw [prsP_val]
      exact kk _ h _ _ _ s1 sr1 (rep_look c2 .non) w
    | _ => exact w.elim
  | _ => rw [e0] at w; exact w.elim
theorem le_dgetD {Γ : Gam} {i : Nat} {ps : List (List Nat × D)} {x : Str} {e : Expr} {d : E} {ks : List (Option Expr)} {vs : List Expr} {p apos dpos cpos : Pos} (hc : chkPs ps ks vs = true) (nd : (ps.map (·.1)).Nodup) (h0 : ps ≠ []) (hl : ps.length ≤ 15) (hu : X.A.units + 64 < cLine)
    (hN : X.N[i]? = some x) (hv : Vis X.env.scope x) (hd : (x == ("__debug__" : Str)) = false) (hcd : (x == ("__classdict__" : Str)) = false) (hm : M2 X (.Dict ks vs dpos) "get" apos (.Name x p) e cpos) (he : PE X e (LE T X RR (wpE Γ d))) :
    PE X (.Call (.Attribute (.Dict ks vs dpos) "get" apos) [.Name x p, e] [] cpos) (LE T X RR (wpE Γ (.dgetD ps (.var i) d))) := by
  obtain ⟨c1, c2, c3, c4, c5⟩ := chkPs_ok (X := X) (pos := dpos) hc
  have hks : ks ≠ [] := fun z => by
    subst z
    exact h0 (List.length_eq_zero_iff.mp c3.symm)
  refine PE.imp (pe_dget2 (by omega) (pe_disp c1 c5 (by rw [c3, c4]) hks (by rw [c3]; exact hl)) (pe_var (pos := p) hN hv hd hcd) he hm) fun τ H Q ⟨F, G, σ, h, Qd, sr, w, kk⟩ => ?_
  have w : (match σ.at i with
    | .val x => wpE Γ d σ h (fun y h => match x with
      | .str s => Qd ((ps.lookup s).getD y) h
      | _ => False) (fun x h' => RR.R x σ h')
    | _ => False) := w
  cases e0 : σ.at i with
  | val x =>
    rw [e0] at w
    obtain ⟨v, v1, r⟩ := sr.val e0
    refine disp_new (Γ := Γ) nd hl sr fun q hq sr1 s1 eq => ?_
    refine ⟨q, rfl, .inl ⟨_, .inl upd_same⟩, _, v1, ?_⟩
    refine ⟨_, G, σ, h, _, sr1, w, fun y h1 u F1 H1 s2 sr2 r2 w1 => ?_⟩
    cases r with
    | @str s =>
      refine ⟨_, DGet.k (k := (Sum.inr (sOf s) : Key)) (sr2.s.sh.sF _ _ (s2 _ _ eq)), ?_⟩
      rw [prsP_val]
      exact kk _ h1 _ _ _ (s1.trans s2) sr2 (rep_look c2 r2) w1
    | _ => exact w1.elim
  | _ => rw [e0] at w; exact w.elim
end
end FF
namespace FF
open PySem PySem.Spec PyProof.Rows L2
/-! ### what is checked -/
structure Wd where
  fns : List (Nat × Str)
  fnK : List (Nat × Str × Nat × List Str × List Nat)
  fnD : List (Nat × Str × List D)
  cons : List (Nat × Str × D)
  tbl : List Str
  cv : Bool
  cm : Bool := true
  mks : List (Nat × Nat × Str) := []
  mets : List (Nat × Nat × Str) := []
  flds : List (Nat × Str) := []
  iso : List (Nat × Str) := []
  rss : List (Nat × Str) := []
  hcl : List (Nat × Str) := []
  xfs : List (Nat × Str) := []
  /-- dicts of the module; classes that are asked of what was caught -/
  dcs : List (Nat × Str × List (List Nat × D)) := []
  isx : List (Nat × Str) := []
  isA : Bool := false
  /-- defs that are given a call -/
  hfs : List (Nat × Str) := []
  /-- a lambda may stand here; what was given may be called here, or in a try -/
  lm : Bool := false
  act : Bool := false
  acts : Bool := false
/-- what may be asked where an exception is handled -/
def Wd.hot (W : Wd) : Wd := { W with cm := false, hfs := [], lm := false, act := false, acts := false }
/-- within a comprehension, within a lambda -/
def Wd.blk (W : Wd) : Wd := { W with hfs := [], lm := false, act := false, acts := false }
/-- within a try -/
def Wd.tr (W : Wd) : Wd := { W with act := W.acts }
/-! the same constant -/
mutual
def D.same : D → D → Bool
  | .non, b => match b with
    | .non => true
    | _ => false
  | .bl a, b => match b with
    | .bl b => a == b
    | _ => false
  | .int a, b => match b with
    | .int b => decide (a = b)
    | _ => false
  | .str a, b => match b with
    | .str b => decide (a = b)
    | _ => false
  | .tup a, b => match b with
    | .tup b => sameL a b
    | _ => false
  | _, _ => false
def sameL : List D → List D → Bool
  | [], b => b.isEmpty
  | a :: r, b => match b with
    | b :: s => D.same a b && sameL r s
    | [] => false
end
mutual
theorem D.same_ok : ∀ {a b : D}, D.same a b = true → a = b
  | .non, b, h => by cases b <;> first | rfl | cases h
  | .bl a, b, h => by cases b <;> first | exact congrArg D.bl (beq_iff_eq.mp h) | cases h
  | .int a, b, h => by cases b <;> first | exact congrArg D.int (of_decide_eq_true h) | cases h
  | .str a, b, h => by cases b <;> first | exact congrArg D.str (of_decide_eq_true h) | cases h
  | .tup a, b, h => by
    cases b with
    | tup b => exact congrArg D.tup (sameL_ok (show sameL a b = true from h))
    | _ => cases h
  | .lst _, _, h => by cases h
  | .obj _ _, _, h => by cases h
  | .ref _, _, h => by cases h
  | .fn _, _, h => by cases h
  | .clo _ _, _, h => by cases h
  | .odd _, _, h => by cases h
theorem sameL_ok : ∀ {a b : List D}, sameL a b = true → a = b
  | [], b, h => (List.isEmpty_iff.mp (show b.isEmpty = true from h)).symm
  | a :: r, b, h => by
    cases b with
    | nil => cases h
    | cons b s =>
      obtain ⟨h1, h2⟩ := Bool.and_eq_true_iff.mp (show (D.same a b && sameL r s) = true from h)
      rw [D.same_ok h1, sameL_ok h2]
end
def psSame : List (List Nat × D) → List (List Nat × D) → Bool
  | [], b => b.isEmpty
  | a :: r, b => match b with
    | b :: s => decide (a.1 = b.1) && D.same a.2 b.2 && psSame r s
    | [] => false
theorem psSame_ok : ∀ {a b : List (List Nat × D)}, psSame a b = true → a = b
  | [], b, h => (List.isEmpty_iff.mp (show b.isEmpty = true from h)).symm
  | a :: r, b, h => by
    cases b with
    | nil => cases h
    | cons b s =>
      obtain ⟨h1, h2⟩ := Bool.and_eq_true_iff.mp (show (decide (a.1 = b.1) && D.same a.2 b.2 && psSame r s) = true from h)
      obtain ⟨h3, h4⟩ := Bool.and_eq_true_iff.mp h1
      rw [psSame_ok h2, Prod.ext (of_decide_eq_true h3) (D.same_ok h4)]
structure CK where
  N : List Str
  names : List (Str × NameKind)
  fnb : Str → Bool
def stdNames : List Str := ["abs", "int", "len", "max", "min", "sum", "all", "any", "range", "zip", "enumerate", "isinstance", "bool", "str", "tuple", "list", "divmod", "sorted", "set", "dict"]
def CK.see (C : CK) (i : Nat) (x : Str) : Bool := decide (C.N[i]? = some x) && (match C.names.lookup x with | some .local => true | some .cell => true | some .free => true | _ => false) && !(x == ("__debug__" : Str)) && !(x == ("__classdict__" : Str))
def CK.own (C : CK) (i : Nat) (x : Str) : Bool := decide (C.N[i]? = some x) && (match C.names.lookup x with | some .local => true | some .cell => C.fnb x | _ => false)
def CK.loc (C : CK) (i : Nat) (x : Str) : Bool := decide (C.N[i]? = some x) && decide (C.names.lookup x = some .local)
def CK.gl (C : CK) (x : Str) : Bool := decide (C.names.lookup x = some .globalImplicit) && !(x == ("__debug__" : Str))
def relN (names : List (Str × NameKind)) (up : List (Str × NameKind)) : List (Str × NameKind) := names.map fun (n, k) => if (k == .free && up.lookup n == some .cell) then (n, .cell) else (n, k)
def CK.blk (C : CK) (scope : Scope) : CK := ⟨C.N, relN scope.names C.names, fun x => scope.names.lookup x == some .cell⟩
def CK.lam (C : CK) (scope : Scope) : CK := ⟨C.N, scope.names, fun _ => false⟩
def CK.sc (C : CK) : Scope := { kind := .function, names := C.names, isGenerator := false, isCoroutine := false, more := [] }
def noSet : Expr → Bool
  | .Set _ _ _ => false
  | _ => true
def noComp : Expr → Bool
  | .ListComp _ _ _ _ => false
  | .SetComp _ _ _ _ => false
  | .DictComp _ _ _ _ _ => false
  | _ => true
/-- a test whose truth is read off -/
def tst : Expr → Bool
  | .IfExp _ _ _ _ => false
  | _ => true
def Bi.nm : Bi → String
  | .abs => "abs" | .int => "int" | .len => "len" | .max => "max" | .min => "min" | .sum => "sum" | .all => "all" | .any => "any" | .divmod => "divmod" | .sorted => "sorted" | .list => "list" | .tuple => "tuple" | _ => ""
def Bi.on : Bi → Bool
  | .abs => true | .int => true | .len => true | .max => true | .min => true | .sum => true | .all => true | .any => true | .divmod => true | .sorted => true | .list => true | .tuple => true | _ => false
def Bi.easy : Bi → Bool
  | .abs => true | .int => true | .len => true | _ => false
def Es.len : Es → Nat
  | .nil => 0
  | .cons _ r => Es.len r + 1
def ownP (C : CK) (own : List Nat) : List (Str × Nat) := own.map fun i => ((C.N[i]?).getD ("" : Str), i)
mutual
def chkT (C : CK) (own : List Nat) : Tg → Expr → Bool
  | .name i, x => match x with
    | .Name n _ => C.own i n && decide (i ∈ own)
    | _ => false
  | .tup ts, x => match x with
    | .Tuple es _ _ => decide (es.length = ts.len) && chkTs C own ts es
    | _ => false
def chkTs (C : CK) (own : List Nat) : Tgs → List Expr → Bool
  | .nil, l => l.isEmpty
  | .cons t ts, l => match l with
    | x :: xs => noStar x && (chkT C own t x && chkTs C own ts xs)
    | [] => false
end
def chkDget (C : CK) (ps : List (List Nat × List Nat)) (k d : E) (x : Expr) : Bool := match x with
  | .Call (.Attribute (.Dict [some (.Constant (.str a1) _ _), some (.Constant (.str a2) _ _)] [.Constant (.str b1) _ _, .Constant (.str b2) _ _] _) m ap) [.Name y _, .Name z _] [] p => match ps, k, d with
    | [(s1, t1), (s2, t2)], .var i, .var j => decide (m = ("get" : Str)) && decide (sOf s1 = a1) && decide (sOf s2 = a2) && decide (sOf t1 = b1) && decide (sOf t2 = b2) && decide (s1 ≠ s2) && (ap.endLine == p.line) && (C.see i y && C.see j z)
    | _, _, _ => false
  | _ => false
def flatX : Expr → Bool
  | .Name _ _ => true
  | .Constant _ _ _ => true
  | _ => false
mutual
def chkE (W : Wd) (C : CK) : E → Expr → Bool
  | .var i, x => match x with
    | .Name n _ => C.see i n
    | _ => false
  | .int i, x => match x with
    | .Constant (.int j) _ _ => decide (i = j)
    | _ => false
  | .bl b, x => match x with
    | .Constant (.bool c) _ _ => b == c
    | _ => false
  | .non, x => match x with
    | .Constant .none _ _ => true
    | _ => false
  | .str s, x => match x with
    | .Constant (.str y) _ _ => decide (sOf s = y)
    | _ => false
  | .gcon g d, x => match x with
    | .Name y _ => (W.cons.any fun q => decide (q.1 = g) && decide (q.2.1 = y) && D.same q.2.2 d) && C.gl y
    | _ => false
  | .gfn n, x => match x with
    | .Name y _ => decide ((n, y) ∈ W.fns) && C.gl y
    | _ => false
  | .bin op a b, x => match x with
    | .BinOp l o r _ => decide (o = opM op) && (chkE W C a l && chkE W C b r)
    | _ => false
  | .neg a, x => match x with
    | .UnaryOp .USub y _ => chkE W C a y
    | _ => false
  | .not a, x => match x with
    | .UnaryOp .Not y _ => tst y && chkE W C a y
    | _ => false
  | .ands es, x => match x with
    | .BoolOp .And l _ => decide (0 < es.len) && l.all tst && chkEs W C es l
    | _ => false
  | .ors es, x => match x with
    | .BoolOp .Or l _ => decide (0 < es.len) && l.all tst && chkEs W C es l
    | _ => false
  | .cmp op a b, x => match x with
    | .Compare l [o] [r] _ => decide (o = copM op) && noSet r && (chkE W C a l && chkE W C b r)
    | _ => false
  | .chain o1 o2 a b c, x => match x with
    | .Compare l [p1, p2] [r, s] _ => decide (p1 = copM o1) && decide (p2 = copM o2) && noSet s && (chkE W C a l && (chkE W C b r && chkE W C c s))
    | _ => false
  | .ite c a b, x => match x with
    | .IfExp t y z _ => tst t && (chkE W C c t && (chkE W C a y && chkE W C b z))
    | _ => false
  | .tup es, x => match x with
    | .Tuple l _ _ => chkEs W C es l
    | _ => false
  | .lst es, x => match x with
    | .List l _ => chkEs W C es l
    | _ => false
  | .refl es, x => match x with
    | .List l _ => chkEs W C es l
    | _ => false
  | .dct, x => match x with
    | .Dict [] [] _ => true
    | _ => false
  | .call f es dv, x => match x with
    | .Call (.Name y _) l [] _ => W.cm && ((decide ((f, y) ∈ W.fns) && dv.isEmpty) || ((W.fnD.any fun q => decide (q.1 = f) && decide (q.2.1 = y) && sameL q.2.2 dv) && !l.isEmpty)) && C.gl y && chkEs W C es l
    | _ => false
  | .callk f es ks p, x => match x with
    | .Call (.Name y _) l kws _ => W.cm && (W.fnK.any fun q => decide (q.1 = f) && decide (q.2.1 = y) && decide (q.2.2.1 = es.len) && decide (kws.map (·.arg) = q.2.2.2.1.map some) && decide (q.2.2.2.2 = p)) && C.gl y && (chkEs W C es l && chkKs W C ks kws)
    | _ => false
  | .callv i es, x => match x with
    | .Call (.Name y _) (e :: l) [] _ => W.cm && W.cv && C.see i y && chkEs W C es (e :: l)
    | _ => false
  | .lamc f e, x => match x with
    | .Call (.Name y _) [.Lambda ⟨[], [], none, [], [], none, []⟩ body scope _] [] _ => W.cm && W.lm && decide ((f, y) ∈ W.hfs) && C.gl y && LamX.lamSB C.sc scope && (decide C.N.Nodup && chkE W.blk (C.lam scope) e body)
    | _ => false
  | .act i, x => match x with
    | .Call (.Name y _) [] [] _ => W.act && decide (i = 0) && C.see 0 y
    | _ => false
  | .meth f c o es dv, x => match x with
    | .Call (.Attribute y m ap) l [] p => W.cm && dv.isEmpty && decide ((f, c, m) ∈ W.mets) && noSuper y && (ap.endLine == p.line) && decide (l.length < 30) && (l.isEmpty == (match es with | .nil => true | .cons _ _ => false)) && (chkE W C o y && chkEs W C es l)
    | _ => false
  | .make f c es _, x => match x with
    | .Call (.Name y _) (e :: l) [] _ => W.cm && decide ((f, c, y) ∈ W.mks) && C.gl y && chkEs W C es (e :: l)
    | _ => false
  | .bi b es, x => match x with
    | .Call (.Name y _) (e :: l) [] _ => (W.cm || b.easy) && b.on && decide (y = Str.ofString b.nm) && C.gl y && chkEs W C es (e :: l)
    | _ => false
  | .isin e t, x => match x with
    | .Call (.Name f _) [y, .Name z _] [] _ => match t with
      | .obj c => decide (f = ("isinstance" : Str)) && decide ((c, z) ∈ W.iso) && C.gl f && C.gl z && noStar y && chkE W C e y
      | t => t.on && decide (f = ("isinstance" : Str)) && decide (z = Str.ofString t.nm) && C.gl f && C.gl z && noStar y && chkE W C e y
    | _ => false
  | .bits o, x => match x with
    | .Call (.Attribute y m ap) [] [] p => decide (m = ("bit_length" : Str)) && noSuper y && (ap.endLine == p.line) && chkE W C o y
    | _ => false
  | .count _ _, _ => false
  | .fld o f, x => match x with
    | .Attribute y a _ => decide (W.tbl[f]? = some a) && noSuper y && chkE W C o y
    | _ => false
  | .xfld i cs, x => match x with
    | .Attribute (.Name y p) n _ => C.see i y && noSuper (.Name y p) && cs.all (fun c => decide ((c, n) ∈ W.xfs))
    | _ => false
  | .oidx i e, x => match x with
    | .Subscript (.Name y _) z _ => C.see i y && noSlice z && chkE W C e z
    | _ => false
  | .olen i, x => match x with
    | .Call (.Name y _) [.Name z _] [] _ => decide (y = ("len" : Str)) && C.gl y && C.see i z
    | _ => false
  | .idx o i, x => match x with
    | .Subscript y z _ => noSlice z && (chkE W C o y && chkE W C i z)
    | _ => false
  | .slTo o b, x => match x with
    | .Subscript y (.Slice none (some z) none _) _ => chkE W C o y && chkE W C b z
    | _ => false
  | .slFrom o a, x => match x with
    | .Subscript y (.Slice (some z) none none _) _ => chkE W C o y && chkE W C a z
    | _ => false
  | .slOf o a b, x => match x with
    | .Subscript y (.Slice (some z) (some w) none _) _ => chkE W C o y && (chkE W C a z && chkE W C b w)
    | _ => false
  | .slRev o, x => match x with
    | .Subscript y (.Slice none none (some (.UnaryOp .USub (.Constant (.int 1) _ _) _)) _) _ => chkE W C o y
    | _ => false
  | .slRev2 o, x => match x with
    | .Subscript y (.Slice (some (.UnaryOp .USub (.Constant (.int 2) _ _) _)) none (some (.UnaryOp .USub (.Constant (.int 1) _ _) _)) _) _ => chkE W C o y
    | _ => false
  | .slRevTo o, x => match x with
    | .Subscript y (.Slice none (some (.Constant (.int 0) _ _)) (some (.UnaryOp .USub (.Constant (.int 1) _ _) _)) _) _ => chkE W C o y
    | _ => false
  | .sset a, x => match x with
    | .Call (.Name f _) [.Call (.Name g _) [y] [] _] [] _ => W.cm && decide (f = ("sorted" : Str)) && decide (g = ("set" : Str)) && C.gl f && C.gl g && noStar y && chkE W C a y
    | _ => false
  | .dget ps k d, x => chkDget C ps k d x
  | .gdin g ps neg k, x => match x with
    | .Compare l [o] [.Name y _] _ => (W.dcs.any fun q => decide (q.1 = g) && decide (q.2.1 = y) && psSame q.2.2 ps) && decide (o = inM neg) && C.gl y && chkE W C k l
    | _ => false
  | .gdidx g ps k, x => match x with
    | .Subscript (.Name y _) z _ => (W.dcs.any fun q => decide (q.1 = g) && decide (q.2.1 = y) && psSame q.2.2 ps) && C.gl y && noSlice z && chkE W C k z
    | _ => false
  | .gdget _ _ _, _ => false
  | .isx i c, x => match x with
    | .Call (.Name f _) [.Name y _, .Name z _] [] _ => decide (f = ("isinstance" : Str)) && C.gl f && C.see i y && decide ((c, z) ∈ W.isx) && C.gl z
    | _ => false
  | .isxA i, x => match x with
    | .Call (.Name f _) [.Name y _, .Name z _] [] _ => decide (f = ("isinstance" : Str)) && C.gl f && C.see i y && decide (z = ("ArithmeticError" : Str)) && W.isA && C.gl z
    | _ => false
  | .cntB o, x => match x with
    | .Call (.Attribute y m ap) [.Constant (.bool true) _ _] [] p => decide (m = ("count" : Str)) && noSuper y && (ap.endLine == p.line) && chkE W C o y
    | _ => false
  | .dctM, x => match x with
    | .Dict [some (.Constant (.str a1) _ _), some (.Constant (.str a2) _ _)] [.Constant (.str b1) _ _, .Constant (.str b2) _ _] _ => decide (a1 = sOf dnS) && decide (a2 = sOf upS) && decide (b1 = sOf upS) && decide (b2 = sOf dnS)
    | _ => false
  | .dictP e, x => match x with
    | .Call (.Name d _) [y] [] _ => decide (d = ("dict" : Str)) && W.cm && C.gl d && noStar y && chkE W C e y
    | _ => false
  | .midx a b, x => match x with
    | .Subscript y z _ => noSlice z && (chkE W C a y && chkE W C b z)
    | _ => false
  | .sidx a b, x => match x with
    | .Subscript y z _ => noSlice z && (chkE W C a y && chkE W C b z)
    | _ => false
  | .sslT o b, x => match x with
    | .Subscript y (.Slice none (some z) none _) _ => chkE W C o y && chkE W C b z
    | _ => false
  | .sslF o a, x => match x with
    | .Subscript y (.Slice (some z) none none _) _ => chkE W C o y && chkE W C a z
    | _ => false
  | .ssl o a b, x => match x with
    | .Subscript y (.Slice (some z) (some w) none _) _ => chkE W C o y && (chkE W C a z && chkE W C b w)
    | _ => false
  | .sin a b, x => match x with
    | .Compare l [o] [r] _ => decide (o = copM .in_) && noSet r && (chkE W C a l && chkE W C b r)
    | _ => false
  | .strI e, x => match x with
    | .Call (.Name d _) [y] [] _ => decide (d = ("str" : Str)) && C.gl d && noStar y && chkE W C e y
    | _ => false
  | .intt e, x => match x with
    | .Call (.Name d _) [y] [] _ => decide (d = ("int" : Str)) && C.gl d && noStar y && chkE W C e y
    | _ => false
  | .listS e, x => match x with
    | .Call (.Name f _) [y] [] _ => W.cm && decide (f = ("list" : Str)) && C.gl f && noStar y && chkE W C e y
    | _ => false
  | .dgetN ps k, x => match x with
    | .Call (.Attribute (.Dict ks vs _) m ap) [.Name y _] [] p => match k with
      | .var i => chkPs ps ks vs && decide ((ps.map (·.1)).Nodup) && decide (ps ≠ []) && decide (ps.length ≤ 15) && decide (m = ("get" : Str)) && (ap.endLine == p.line) && C.see i y
      | _ => false
    | _ => false
  | .dgetD ps k d, x => match x with
    | .Call (.Attribute (.Dict ks vs _) m ap) [.Name y _, z] [] p => match k with
      | .var i => chkPs ps ks vs && decide ((ps.map (·.1)).Nodup) && decide (ps ≠ []) && decide (ps.length ≤ 15) && decide (m = ("get" : Str)) && (ap.endLine == p.line) && C.see i y && flatX z && chkE W C d z
      | _ => false
    | _ => false
  | .vget i j k, x => match x with
    | .Call (.Attribute (.Name z q) m ap) [.Name x _, .Name y _] [] p => decide (m = ("get" : Str)) && C.see i z && C.see j x && C.see k y && noSuper (.Name z q) && (ap.endLine == p.line)
    | _ => false
  | .calle a es, x => match x with
    | .Call (.IfExp t y z ip) (e :: l) [] _ => W.cm && W.cv && (chkE W C a (.IfExp t y z ip) && chkEs W C es (e :: l))
    | _ => false
  | .lidx a b, x => match x with
    | .Call (.Attribute y m ap) [z] [] p => decide (m = ("index" : Str)) && noSuper y && (ap.endLine == p.line) && noStar z && (chkE W C a y && chkE W C b z)
    | _ => false
  | .maxP a, x => match x with
    | .Call (.Name f _) [y] [] _ => W.cm && decide (f = ("max" : Str)) && C.gl f && noStar y && chkE W C a y
    | _ => false
  | .slStep a b, x => match x with
    | .Subscript y (.Slice none none (some z) _) _ => chkE W C a y && chkE W C b z
    | _ => false
  | .lrng1 b, x => match x with
    | .Call (.Name f _) [.Call (.Name g _) [y] [] _] [] _ => W.cm && decide (f = ("list" : Str)) && decide (g = ("range" : Str)) && C.gl f && C.gl g && noStar y && chkE W C b y
    | _ => false
  | .rrng1 b, x => match x with
    | .Call (.Name f _) [.Call (.Name g _) [y] [] _] [] _ => W.cm && decide (f = ("list" : Str)) && decide (g = ("range" : Str)) && C.gl f && C.gl g && noStar y && chkE W C b y
    | _ => false
  | .lrng2 a b, x => match x with
    | .Call (.Name f _) [.Call (.Name g _) [y, z] [] _] [] _ => W.cm && decide (f = ("list" : Str)) && decide (g = ("range" : Str)) && C.gl f && C.gl g && noStar y && noStar z && (chkE W C a y && chkE W C b z)
    | _ => false
  | .oemp _, _ => false
  | .lemp neg e, x => match x with
    | .Compare l [o] [.List [] _] _ => decide (o = copM (lemN neg)) && chkE W C e l
    | _ => false
  | .comp t it c e own, x => match x with
    | .ListComp elt [⟨tg, iter, ifs, 0⟩] scope _ => W.cm && blkC C.N C.sc scope (ownP C own) && noSet iter && (chkI W C it iter tg && (chkT (C.blk scope) own t tg && (chkC W.blk (C.blk scope) c ifs && chkE W.blk (C.blk scope) e elt)))
    | _ => false
def chkC (W : Wd) (C : CK) : Es → List Expr → Bool
  | .nil, l => l.isEmpty
  | .cons e r, l => match l with
    | [x] => tst x && (chkE W C e x && (match r with | .nil => true | .cons _ _ => false))
    | _ => false
def chkEs (W : Wd) (C : CK) : Es → List Expr → Bool
  | .nil, l => l.isEmpty
  | .cons e r, l => match l with
    | x :: xs => noStar x && (chkE W C e x && chkEs W C r xs)
    | [] => false
def chkKs (W : Wd) (C : CK) : Es → List Keyword → Bool
  | .nil, l => l.isEmpty
  | .cons e r, l => match l with
    | ⟨_, x, _⟩ :: xs => chkE W C e x && chkKs W C r xs
    | [] => false
def chkI (W : Wd) (C : CK) : It → Expr → Expr → Bool
  | .seq e, x, _ => chkE W C e x
  | .rng1 a, x, _ => match x with
    | .Call (.Name y _) [u] [] _ => decide (y = ("range" : Str)) && C.gl y && noStar u && chkE W C a u
    | _ => false
  | .rng2 a b, x, _ => match x with
    | .Call (.Name y _) [u, v] [] _ => decide (y = ("range" : Str)) && C.gl y && noStar u && noStar v && (chkE W C a u && chkE W C b v)
    | _ => false
  | .rng3 _ _ _, _, _ => false
  | .zip a b, x, tg => match tg with
    | .Tuple _ _ _ => match x with
      | .Call (.Name y _) [u, v] [] _ => decide (y = ("zip" : Str)) && C.gl y && noStar u && noStar v && (chkE W C a u && chkE W C b v)
      | _ => false
    | _ => false
  | .enum a, x, tg => match tg with
    | .Tuple _ _ _ => match x with
      | .Call (.Name y _) [u] [] _ => decide (y = ("enumerate" : Str)) && C.gl y && noStar u && chkE W C a u
      | _ => false
    | _ => false
  | .enumS a, x, tg => match tg with
    | .Tuple _ _ _ => match x with
      | .Call (.Name y _) [u] [] _ => decide (y = ("enumerate" : Str)) && C.gl y && noStar u && chkE W C a u
      | _ => false
    | _ => false
  | .sgn e, x, _ => chkE W C e x
end
/-! ### what it is to be right -/
/-- what is known of a law's defs -/
structure OkG (W : Wd) (T : Tb) (Γ : Gam) (P : Program) (w : World) (mg : Str → Option Value) (base : Heap) (k : Nat) : Prop where
  fr : ∀ x ∈ stdNames, mg x = none
  fns : ∀ p ∈ W.fns, Good P w T mg base k p.1 (Γ.fn p.1) ∧ mg p.2 = some (.ref (T.fA p.1))
  fnK : ∀ p ∈ W.fnK, GoodK P w T mg base k p.1 p.2.2.1 p.2.2.2.1 p.2.2.2.2 (Γ.fn p.1) ∧ mg p.2.1 = some (.ref (T.fA p.1))
  fnD : ∀ p ∈ W.fnD, GoodD P w T mg base k p.1 p.2.2 (Γ.fn p.1) ∧ mg p.2.1 = some (.ref (T.fA p.1))
  cons : ∀ p ∈ W.cons, ∃ v u, mg p.2.1 = some u ∧ RelV v u ∧ ∀ F, Rep T F p.2.2 v
  tbl : W.tbl = T.tbl
  cv : W.cv = true → (∀ n, Γ.cvs n → (∃ ds h Q R, Γ.fn n ds h Q R) → Good P w T mg base k n (Γ.fn n)) ∧ (∀ n vs ds h Q R, ¬ Γ.clo n vs ds h Q R) ∧ (∀ n, Γ.cvs n → PySem.W.keepIn T.K (.ref (T.fA n)) = true)
  mks : ∀ p ∈ W.mks, ∃ j, j + 1 ≤ k ∧ GoodI P w T mg base j p.1 p.2.1 (Γ.fn p.1) ∧ mg p.2.2 = some (.ref (T.cA p.2.1))
  mets : ∀ p ∈ W.mets, GoodM P w T mg base k p.1 p.2.1 p.2.2 (Γ.fn p.1) ∧ Cls T.K (T.cA p.2.1)
  flds : ∀ p ∈ W.flds, NoAttr T.K (T.cA p.1) p.2
  iso : ∀ p ∈ W.iso, mg p.2 = some (.ref (T.cA p.1)) ∧ IsoC T.K (T.cA p.1)
  rss : ∀ p ∈ W.rss, ∃ j, j + 1 ≤ k ∧ GoodX P w T mg base j p.1 ∧ mg p.2 = some (.ref (T.cA p.1))
  hcl : ∀ p ∈ W.hcl, mg p.2 = some (.ref (T.cA p.1))
  exm : ∀ c1 c2 b, Γ.sub c1 c2 = some b → PySem.W.exmOne T.K (.ref (T.cA c1)) (.ref (T.cA c2)) = some b
  xfs : ∀ p ∈ W.xfs, T.xf p.1 = p.2 ∧ XfC T.K (T.cA p.1) ∧ PySem.W.findIn T.K (.ref (T.cA p.1)) p.2 = some none
  dcs : ∀ p ∈ W.dcs, ∃ d, mg p.2.1 = some (.ref d) ∧ DcC T w d p.2.2 := by intro p hp; cases hp
  isx : ∀ p ∈ W.isx, mg p.2 = some (.ref (T.cA p.1)) ∧ ∀ c' b, Γ.sub c' p.1 = some b → ExcE T.K (T.cA c') ∧ PySem.W.kitOne T.K (.ref (T.cA c')) (.ref (T.cA p.1)) = some b := by intro p hp; cases hp
  isA : W.isA = true → mg "ArithmeticError" = none ∧ ∀ c' c b, Γ.sub c' c = some b → ExcE T.K (T.cA c') ∧ PySem.W.kitOne T.K (.ref (T.cA c')) (.type "ArithmeticError") = some true := by intro z; cases z
  hfs : ∀ p ∈ W.hfs, GoodH P w T mg base (k + 1) p.1 (Γ.hf p.1) ∧ mg p.2 = some (.ref (T.fA p.1)) := by intro p hp; cases hp
theorem OkG.blk {W : Wd} {T : Tb} {Γ : Gam} {P : Program} {w : World} {mg : Str → Option Value} {base : Heap} {k : Nat} (o : OkG W T Γ P w mg base k) : OkG W.blk T Γ P w mg base k :=
  ⟨o.fr, o.fns, o.fnK, o.fnD, o.cons, o.tbl, o.cv, o.mks, o.mets, o.flds, o.iso, o.rss, o.hcl, o.exm, o.xfs, o.dcs, o.isx, o.isA, fun p hp => by cases hp⟩
structure Ok (W : Wd) (T : Tb) (Γ : Gam) (X : Cx) (RR : RRt) (k : Nat) : Prop where
  hK : X.K = T.K
  fr : ∀ x ∈ stdNames, X.mg x = none
  units : X.A.units + 64 < cLine
  room : W.cm = true → Room k X.A
  tk : Takes X (WR T X RR)
  calm : W.cm = true → X.calm = true
  fns : ∀ p ∈ W.fns, Good X.prog X.w T X.mg X.base k p.1 (Γ.fn p.1) ∧ X.mg p.2 = some (.ref (T.fA p.1))
  fnK : ∀ p ∈ W.fnK, GoodK X.prog X.w T X.mg X.base k p.1 p.2.2.1 p.2.2.2.1 p.2.2.2.2 (Γ.fn p.1) ∧ X.mg p.2.1 = some (.ref (T.fA p.1))
  fnD : ∀ p ∈ W.fnD, GoodD X.prog X.w T X.mg X.base k p.1 p.2.2 (Γ.fn p.1) ∧ X.mg p.2.1 = some (.ref (T.fA p.1))
  cons : ∀ p ∈ W.cons, ∃ v u, X.mg p.2.1 = some u ∧ RelV v u ∧ ∀ F, Rep T F p.2.2 v
  tbl : W.tbl = T.tbl
  cv : W.cv = true → (∀ n, Γ.cvs n → (∃ ds h Q R, Γ.fn n ds h Q R) → Good X.prog X.w T X.mg X.base k n (Γ.fn n)) ∧ (∀ n vs ds h Q R, ¬ Γ.clo n vs ds h Q R) ∧ (∀ n, Γ.cvs n → PySem.W.keepIn T.K (.ref (T.fA n)) = true)
  mks : ∀ p ∈ W.mks, ∃ j, j + 1 ≤ k ∧ GoodI X.prog X.w T X.mg X.base j p.1 p.2.1 (Γ.fn p.1) ∧ X.mg p.2.2 = some (.ref (T.cA p.2.1))
  mets : ∀ p ∈ W.mets, GoodM X.prog X.w T X.mg X.base k p.1 p.2.1 p.2.2 (Γ.fn p.1) ∧ Cls T.K (T.cA p.2.1)
  flds : ∀ p ∈ W.flds, NoAttr T.K (T.cA p.1) p.2
  iso : ∀ p ∈ W.iso, X.mg p.2 = some (.ref (T.cA p.1)) ∧ IsoC T.K (T.cA p.1)
  rss : ∀ p ∈ W.rss, ∃ j, j + 1 ≤ k ∧ GoodX X.prog X.w T X.mg X.base j p.1 ∧ X.mg p.2 = some (.ref (T.cA p.1))
  hcl : ∀ p ∈ W.hcl, X.mg p.2 = some (.ref (T.cA p.1))
  exm : ∀ c1 c2 b, Γ.sub c1 c2 = some b → PySem.W.exmOne T.K (.ref (T.cA c1)) (.ref (T.cA c2)) = some b
  xfs : ∀ p ∈ W.xfs, T.xf p.1 = p.2 ∧ XfC T.K (T.cA p.1) ∧ PySem.W.findIn T.K (.ref (T.cA p.1)) p.2 = some none
  dcs : ∀ p ∈ W.dcs, ∃ d, X.mg p.2.1 = some (.ref d) ∧ DcC T X.w d p.2.2
  isx : ∀ p ∈ W.isx, X.mg p.2 = some (.ref (T.cA p.1)) ∧ ∀ c' b, Γ.sub c' p.1 = some b → ExcE T.K (T.cA c') ∧ PySem.W.kitOne T.K (.ref (T.cA c')) (.ref (T.cA p.1)) = some b
  isA : W.isA = true → X.mg "ArithmeticError" = none ∧ ∀ c' c b, Γ.sub c' c = some b → ExcE T.K (T.cA c') ∧ PySem.W.kitOne T.K (.ref (T.cA c')) (.type "ArithmeticError") = some true
  lam : W.lm = true → ∃ j c P, j + 2 ≤ k ∧ OkG W.blk T Γ X.prog X.w X.mg X.base j ∧ (∀ p ∈ W.hfs, GoodH X.prog X.w T X.mg X.base (j + 1) p.1 (Γ.hf p.1) ∧ X.mg p.2 = some (.ref (T.fA p.1))) ∧ LamX.TabB X.base X.mg c P ∧ X.env.code = .ref c ∧ (P, X.env.qual ++ "<lambda>") ∈ T.lam ∧ ∀ p ∈ T.lam, p.1 = P → p.2 = X.env.qual ++ "<lambda>"
  act : W.act = true → ActOk T Γ X RR
  acts : W.acts = true → ∀ pn xe R2, Takes (X.tr pn xe) (WR T (X.tr pn xe) R2) → Same RR.F0 R2.F0 → R2.G0 = RR.G0 → ActOk T Γ (X.tr pn xe) R2
structure Fits (C : CK) (X : Cx) : Prop where
  N : X.N = C.N
  nd : C.N.Nodup
  nm : X.env.scope.names = C.names
  kd : X.env.scope.kind = .function
  fn : ∀ x, C.fnb x = true → X.fn x = true
section
variable {W : Wd} {C : CK} {T : Tb} {Γ : Gam} {X : Cx} {RR : RRt} {k : Nat}
theorem takesF {X : Cx} {T : Tb} {F0 G0 : Hp} : Takes X (WR T X ⟨F0, G0, fun _ _ _ => False⟩) := fun _ _ x => by
  obtain ⟨_, _, _, _, _, _, _, _, _, _, _, _, _, _, _, _, z⟩ := x
  obtain ⟨_, _, _, _, _, _, _, _, _, _, _, _, z⟩ := z
  exact z.elim
theorem Ok.blk (o : Ok W T Γ X RR k) (s : Shared) (H : Hp) (scope : Scope) (env : PySem.Env) (fp : List Addr) (F0 G0 : Hp) : Ok W.blk T Γ (X.blk s H scope env fp) ⟨F0, G0, fun _ _ _ => False⟩ k :=
  ⟨o.hK, o.fr, o.units, o.room, takesF, o.calm, o.fns, o.fnK, o.fnD, o.cons, o.tbl, o.cv, o.mks, o.mets, o.flds, o.iso, o.rss, o.hcl, o.exm, o.xfs, o.dcs, o.isx, o.isA, fun z => (by cases z), fun z => (by cases z), fun z => (by cases z)⟩
theorem Ok.hot (o : Ok W T Γ X RR k) (e : Addr) (pn : List (Addr × Obj)) (F0 G0 : Hp) : Ok W.hot T Γ (X.suite e pn) ⟨F0, G0, fun _ _ _ => False⟩ k :=
  ⟨o.hK, o.fr, o.units, fun z => (by cases z), takesF, fun z => (by cases z), o.fns, o.fnK, o.fnD, o.cons, o.tbl, o.cv, o.mks, o.mets, o.flds, o.iso, o.rss, o.hcl, o.exm, o.xfs, o.dcs, o.isx, o.isA, fun z => (by cases z), fun z => (by cases z), fun z => (by cases z)⟩
theorem Ok.tr (o : Ok W T Γ X RR k) (pn : List (Addr × Obj)) (xe : Value → Shared → Prop) (R2 : RRt) (tk : Takes (X.tr pn xe) (WR T (X.tr pn xe) R2)) (sF : Same RR.F0 R2.F0) (eG : R2.G0 = RR.G0) : Ok W.tr T Γ (X.tr pn xe) R2 k :=
  ⟨o.hK, o.fr, o.units, o.room, tk, o.calm, o.fns, o.fnK, o.fnD, o.cons, o.tbl, o.cv, o.mks, o.mets, o.flds, o.iso, o.rss, o.hcl, o.exm, o.xfs, o.dcs, o.isx, o.isA, o.lam, fun z => o.acts z pn xe R2 tk sF eG, fun z pn' xe' R3 tk' sF' eG' => o.acts z pn' xe' R3 tk' (sF.trans sF') (eG'.trans eG)⟩
theorem Fits.blk (f : Fits C X) (s : Shared) (H : Hp) (scope : Scope) (hk : scope.kind = .function) (A : Addr) (cl : List (Str × Addr)) (fp : List Addr) : Fits (C.blk scope) (X.blk s H scope (compEnvC scope cl A X.env) fp) := by
  refine ⟨f.N, f.nd, ?_, hk, fun x h => h⟩
  show (relabel scope X.env).names = relN scope.names C.names
  unfold relabel relN Env.kindOf
  rw [f.nm, f.kd]
  apply List.map_congr_left
  intro a _
  simp
theorem bk {a b : Bool} (h : (a && b) = true) : a = true ∧ b = true := Bool.and_eq_true_iff.mp h
theorem nb {a : Bool} (h : (!a) = true) : a = false := by simpa using h
theorem Fits.see (f : Fits C X) {i : Nat} {x : Str} (h : C.see i x = true) : X.N[i]? = some x ∧ Vis X.env.scope x ∧ (x == ("__debug__" : Str)) = false ∧ (x == ("__classdict__" : Str)) = false := by
  unfold CK.see at h
  obtain ⟨h, h4⟩ := bk h
  obtain ⟨h, h3⟩ := bk h
  obtain ⟨h1, h2⟩ := bk h
  refine ⟨f.N ▸ of_decide_eq_true h1, ?_, nb h3, nb h4⟩
  unfold Vis
  rw [f.nm]
  cases e : C.names.lookup x with
  | none => rw [e] at h2; cases h2
  | some k => cases k <;> first | exact .inl rfl | exact .inr (.inl rfl) | exact .inr (.inr rfl) | (rw [e] at h2; cases h2)
theorem Fits.own (f : Fits C X) {i : Nat} {x : Str} (h : C.own i x = true) : X.N[i]? = some x ∧ Loc X.env.scope x ∧ (X.fn x = true ∨ X.env.scope.names.lookup x = some .local) := by
  unfold CK.own at h
  obtain ⟨h1, h2⟩ := bk h
  unfold L2.Loc
  rw [f.nm]
  refine ⟨f.N ▸ of_decide_eq_true h1, ?_⟩
  cases e : C.names.lookup x with
  | none => rw [e] at h2; cases h2
  | some k => cases k <;> first | exact ⟨.inl rfl, .inr rfl⟩ | exact ⟨.inr rfl, .inl (f.fn _ (by rw [e] at h2; exact h2))⟩ | (rw [e] at h2; cases h2)
theorem Fits.loc (f : Fits C X) {i : Nat} {x : Str} (h : C.loc i x = true) : X.N[i]? = some x ∧ X.env.scope.names.lookup x = some .local := by
  obtain ⟨h1, h2⟩ := bk h
  rw [f.nm]
  exact ⟨f.N ▸ of_decide_eq_true h1, of_decide_eq_true h2⟩
theorem Fits.gl (f : Fits C X) {x : Str} (h : C.gl x = true) : Gl X x ∧ (x == ("__debug__" : Str)) = false := by
  obtain ⟨h1, h2⟩ := bk h
  refine ⟨?_, nb h2⟩
  unfold Gl Env.kindOf
  rw [f.nm]
  exact of_decide_eq_true h1
theorem fold_ok {iter : Expr} {env : PySem.Env} (h : noSet iter = true) : ∀ x, foldedSetIterable iter env x = pure x := by
  intro x
  cases iter <;> first | rfl | cases h
theorem set_no {e : Expr} (h : noSet e = true) : ∀ es k p, e ≠ .Set es k p := fun es k p z => by subst z; cases h
mutual
theorem chkT_ok : ∀ (t : Tg) {C : CK} {own : List Nat} {x : Expr} {X : Cx}, chkT C own t x = true → X.K = T.K → X.calm = true → Fits C X → PG X x (LG T X.pn own (bindT t))
  | .name i, C, own, x, X, h, hK, hc, f => by
    unfold chkT at h
    split at h
    · obtain ⟨h1, h2⟩ := bk h
      obtain ⟨a1, a2, a3⟩ := f.own h1
      exact lg_name (f.N ▸ f.nd) a1 a2 a3 (of_decide_eq_true h2)
    · cases h
  | .tup ts, C, own, x, X, h, hK, hc, f => by
    unfold chkT at h
    split at h
    · obtain ⟨h1, h2⟩ := bk h
      obtain ⟨g1, g2⟩ := chkTs_ok ts h2 hK hc f
      exact lg_tup hK hc g1 (of_decide_eq_true h1) g2
    · cases h
theorem chkTs_ok : ∀ (t : Tgs) {C : CK} {own : List Nat} {x : List Expr} {X : Cx}, chkTs C own t x = true → X.K = T.K → X.calm = true → Fits C X → x.all noStar = true ∧ PGs X x (LGs T X.pn own (bindTs t))
  | .nil, C, own, x, X, h, hK, hc, f => by
    unfold chkTs at h
    cases x with
    | nil => exact ⟨rfl, lgs_nil⟩
    | cons _ _ => cases h
  | .cons t ts, C, own, x, X, h, hK, hc, f => by
    unfold chkTs at h
    split at h
    · obtain ⟨h1, h2⟩ := bk h
      obtain ⟨h2, h3⟩ := bk h2
      obtain ⟨g1, g2⟩ := chkTs_ok ts h3 hK hc f
      exact ⟨by rw [List.all_cons, h1, g1]; rfl, lgs_cons h1 (chkT_ok t h2 hK hc f) g2⟩
    · cases h
end
end
end FF
namespace FF
open PySem PySem.Spec PyProof.Rows L2
theorem std {x : String} {W : Wd} {T : Tb} {Γ : Gam} {X : Cx} {RR : RRt} {k : Nat} (o : Ok W T Γ X RR k) (h : (Str.ofString x) ∈ stdNames) : X.mg (Str.ofString x) = none := o.fr _ h
theorem std_bi {b : Bi} (h : b.on = true) : (Str.ofString b.nm) ∈ stdNames := by
  cases b <;> first | (unfold stdNames Bi.nm; simp; done) | exact nomatch h
theorem std_ty {t : Ty} (h : t.on = true) : (Str.ofString t.nm) ∈ stdNames ∧ bootBuiltins (Str.ofString t.nm) = some (.type t.nm) := by
  cases t <;> first
    | exact ⟨by unfold stdNames Ty.nm; simp, boot_int⟩
    | exact ⟨by unfold stdNames Ty.nm; simp, boot_bool⟩
    | exact ⟨by unfold stdNames Ty.nm; simp, boot_str⟩
    | exact ⟨by unfold stdNames Ty.nm; simp, boot_tuple⟩
    | exact ⟨by unfold stdNames Ty.nm; simp, boot_list⟩
    | exact nomatch h
theorem pt_plain {X : Cx} {T : Tb} {RR : RRt} {w : Env → AH → QE → RE → Prop} {x : Expr} (hp : plainT x = true) (h : PE X x (LE T X RR w)) : PE X x (LE T X RR w) ∧ (tst x = true → PT X x (LT T X RR w)) := ⟨h, fun _ => lt_val hp h⟩
theorem boot_sortedF : bootBuiltins ("sorted" : Str) = some (.builtin "sorted") := by decide +kernel
theorem boot_divmodF : bootBuiltins ("divmod" : Str) = some (.builtin "divmod") := by decide +kernel
theorem bi_go {W : Wd} {T : Tb} {Γ : Gam} {X : Cx} {RR : RRt} {k m : Nat} {b : Bi} {es : Es} {e : Expr} {l : List Expr} {p pos : Pos} (o : Ok W T Γ X RR k) (hb : b.on = true) (hcm : (W.cm || b.easy) = true) (hg : Gl X (Str.ofString b.nm)) (hs : (e :: l).all noStar = true) (ha : PA X (e :: l) (LA T X RR m (wpEs Γ es))) : PE X (.Call (.Name (Str.ofString b.nm) p) (e :: l) [] pos) (LE T X RR (wpE Γ (.bi b es))) := by
  have hm := std o (std_bi hb)
  have hc : b.easy = false → X.calm = true := fun z => by rw [z, Bool.or_false] at hcm; exact o.calm hcm
  cases b with
  | abs => exact le_bi call_bi_abs hg hm boot_abs (by decide) (by decide) hs ha
  | int => exact le_biT call_bi_int hg hm boot_int (by decide) (by decide) hs ha
  | len => exact le_bi (call_bi_len o.hK) hg hm boot_len (by decide) (by decide) hs ha
  | max => exact le_bi (call_bi_max o.hK (hc rfl)) hg hm boot_max (by decide) (by decide) hs ha
  | min => exact le_bi (call_bi_min o.hK (hc rfl)) hg hm boot_min (by decide) (by decide) hs ha
  | sum => exact le_bi (call_bi_sum o.hK (hc rfl)) hg hm boot_sum (by decide) (by decide) hs ha
  | all => exact le_bi (call_bi_all o.hK (hc rfl)) hg hm boot_all (by decide) (by decide) hs ha
  | any => exact le_bi (call_bi_any o.hK (hc rfl)) hg hm boot_any (by decide) (by decide) hs ha
  | sorted => exact le_bi (call_bi_sorted o.hK) hg hm boot_sortedF (by decide) (by decide) hs ha
  | list => exact le_biT (call_bi_list o.hK) hg hm boot_list (by decide) (by decide) hs ha
  | tuple => exact le_biT (call_bi_tuple o.hK) hg hm boot_tuple (by decide) (by decide) hs ha
  | divmod => exact le_bi (call_bi_divmod o.hK) hg hm boot_divmodF (by decide) (by decide) hs ha
  | _ => cases hb
theorem blk_ok {C : CK} {X : Cx} {scope : Scope} {own : List Nat} (f : Fits C X) (h : blkC C.N C.sc scope (ownP C own) = true) : BlkOk X.N X.env.scope scope (ownP C own) := by
  have b := blkOk_by h
  refine ⟨b.kind, b.uniq, fun p hp => by rw [f.N]; exact b.ix p hp, fun y hy e => ?_, fun y hy e => by rw [f.N]; exact b.own y hy e⟩
  rw [f.nm]
  exact b.free y hy e
theorem ownP_snd {C : CK} {own : List Nat} : (ownP C own).map (·.2) = own := by
  unfold ownP
  rw [List.map_map]
  conv => rhs; rw [← List.map_id own]
  rfl
mutual
theorem chkE_ok : ∀ (e : E) {W : Wd} {C : CK} {x : Expr} {T : Tb} {Γ : Gam} {X : Cx} {RR : RRt} {k : Nat}, chkE W C e x = true → Ok W T Γ X RR k → Fits C X → PE X x (LE T X RR (wpE Γ e)) ∧ (tst x = true → PT X x (LT T X RR (wpE Γ e)))
  | .var i, W, C, x, T, Γ, X, RR, k, h, o, f => by
    unfold chkE at h
    split at h
    · obtain ⟨a1, a2, a3, a4⟩ := f.see h
      exact pt_plain rfl (le_var a1 a2 a3 a4)
    · cases h
  | .int i, W, C, x, T, Γ, X, RR, k, h, o, f => by
    unfold chkE at h
    split at h
    · have e := of_decide_eq_true h
      subst e
      exact pt_plain rfl (le_const pe_int (fun _ => .int) fun _ _ _ _ q => q)
    · cases h
  | .bl b, W, C, x, T, Γ, X, RR, k, h, o, f => by
    unfold chkE at h
    split at h
    · have e := beq_iff_eq.mp h
      subst e
      exact pt_plain rfl (le_const pe_bl (fun _ => .bl) fun _ _ _ _ q => q)
    · cases h
  | .non, W, C, x, T, Γ, X, RR, k, h, o, f => by
    unfold chkE at h
    split at h
    · exact pt_plain rfl (le_const pe_non (fun _ => .non) fun _ _ _ _ q => q)
    · cases h
  | .str s, W, C, x, T, Γ, X, RR, k, h, o, f => by
    unfold chkE at h
    split at h
    · have e := of_decide_eq_true h
      subst e
      exact pt_plain rfl (le_const pe_str (fun _ => .str) fun _ _ _ _ q => q)
    · cases h
  | .gcon g d, W, C, x, T, Γ, X, RR, k, h, o, f => by
    unfold chkE at h
    split at h
    · obtain ⟨h1, h2⟩ := bk h
      obtain ⟨g1, g2⟩ := f.gl h2
      obtain ⟨⟨g', y', d'⟩, hq, hb⟩ := List.any_eq_true.mp h1
      obtain ⟨hb, b3⟩ := bk hb
      obtain ⟨b1, b2⟩ := bk hb
      have c2 : y' = _ := of_decide_eq_true b2
      have c3 : d' = d := D.same_ok b3
      obtain ⟨v, u, q1, q2, q3⟩ := o.cons _ hq
      have q1 : X.mg y' = some u := q1
      rw [c2] at q1
      have q3 : ∀ F, Rep T F d' v := q3
      rw [c3] at q3
      exact pt_plain rfl (le_const (pe_glob g1 q1 q2 g2) q3 fun _ _ _ _ q => q)
    · cases h
  | .gfn n, W, C, x, T, Γ, X, RR, k, h, o, f => by
    unfold chkE at h
    split at h
    · obtain ⟨h1, h2⟩ := bk h
      obtain ⟨g1, g2⟩ := f.gl h2
      obtain ⟨q1, q2⟩ := o.fns _ (of_decide_eq_true h1)
      exact pt_plain rfl (le_const (pe_glob (v := .ref (T.fA n)) g1 q2 rfl g2) (fun _ => .fn) fun _ _ _ _ q => q)
    · cases h
  | .bin op a b, W, C, x, T, Γ, X, RR, k, h, o, f => by
    unfold chkE at h
    split at h
    · obtain ⟨h1, h2⟩ := bk h
      obtain ⟨h2, h3⟩ := bk h2
      have e := of_decide_eq_true h1
      subst e
      exact pt_plain rfl (le_bin o.hK (chkE_ok a h2 o f).1 (chkE_ok b h3 o f).1)
    · cases h
  | .neg a, W, C, x, T, Γ, X, RR, k, h, o, f => by
    unfold chkE at h
    split at h
    · exact pt_plain rfl (le_neg (chkE_ok a h o f).1)
    · cases h
  | .not a, W, C, x, T, Γ, X, RR, k, h, o, f => by
    unfold chkE at h
    split at h
    · obtain ⟨h1, h2⟩ := bk h
      have q := chkE_ok a h2 o f
      exact ⟨le_not q.1, fun _ => lt_not (q.2 h1)⟩
    · cases h
  | .ands es, W, C, x, T, Γ, X, RR, k, h, o, f => by
    unfold chkE at h
    split at h
    · obtain ⟨h1, h2⟩ := bk h
      obtain ⟨h1, h0⟩ := bk h1
      have q := (chkEs_ok es h2 o f).2.2.1 (of_decide_eq_true h1) h0
      exact ⟨q.1 _, fun _ => (q.2 _).pt⟩
    · cases h
  | .ors es, W, C, x, T, Γ, X, RR, k, h, o, f => by
    unfold chkE at h
    split at h
    · obtain ⟨h1, h2⟩ := bk h
      obtain ⟨h1, h0⟩ := bk h1
      have q := (chkEs_ok es h2 o f).2.2.2 (of_decide_eq_true h1) h0
      exact ⟨q.1 _, fun _ => (q.2 _).pt⟩
    · cases h
  | .cmp op a b, W, C, x, T, Γ, X, RR, k, h, o, f => by
    unfold chkE at h
    split at h
    · obtain ⟨h1, h2⟩ := bk h
      obtain ⟨h1, h3⟩ := bk h1
      obtain ⟨h4, h5⟩ := bk h2
      have e := of_decide_eq_true h1
      subst e
      have n := nomark_ok (op := op) (set_no h3)
      exact ⟨le_cmp o.hK o.units n (chkE_ok a h4 o f).1 (chkE_ok b h5 o f).1, fun _ => lt_cmp o.hK o.units n (chkE_ok a h4 o f).1 (chkE_ok b h5 o f).1⟩
    · cases h
  | .chain o1 o2 a b c, W, C, x, T, Γ, X, RR, k, h, o, f => by
    unfold chkE at h
    split at h
    · obtain ⟨h1, h2⟩ := bk h
      obtain ⟨h1, h3⟩ := bk h1
      obtain ⟨h1, h6⟩ := bk h1
      obtain ⟨h4, h5⟩ := bk h2
      obtain ⟨h5, h7⟩ := bk h5
      have e := of_decide_eq_true h1
      have e2 := of_decide_eq_true h6
      subst e e2
      have n := nomark_ok (op := o2) (set_no h3)
      exact ⟨le_chain o.hK o.units n (chkE_ok a h4 o f).1 (chkE_ok b h5 o f).1 (chkE_ok c h7 o f).1, fun _ => lt_chain o.hK o.units n (chkE_ok a h4 o f).1 (chkE_ok b h5 o f).1 (chkE_ok c h7 o f).1⟩
    · cases h
  | .ite c a b, W, C, x, T, Γ, X, RR, k, h, o, f => by
    unfold chkE at h
    split at h
    · obtain ⟨h1, h2⟩ := bk h
      obtain ⟨h2, h3⟩ := bk h2
      obtain ⟨h3, h4⟩ := bk h3
      exact ⟨le_ite ((chkE_ok c h2 o f).2 h1) (chkE_ok a h3 o f).1 (chkE_ok b h4 o f).1, fun z => by cases z⟩
    · cases h
  | .tup es, W, C, x, T, Γ, X, RR, k, h, o, f => by
    unfold chkE at h
    split at h
    · exact pt_plain rfl (le_tup (chkEs_ok es h o f).1)
    · cases h
  | .lst es, W, C, x, T, Γ, X, RR, k, h, o, f => by
    unfold chkE at h
    split at h
    · exact pt_plain rfl (le_lst (chkEs_ok es h o f).1)
    · cases h
  | .dct, W, C, x, T, Γ, X, RR, k, h, o, f => by
    unfold chkE at h
    split at h
    · exact pt_plain rfl le_dct
    · cases h
  | .refl es, W, C, x, T, Γ, X, RR, k, h, o, f => by
    unfold chkE at h
    split at h
    · exact pt_plain rfl (le_refl (chkEs_ok es h o f).1)
    · cases h
  | .call n es dv, W, C, x, T, Γ, X, RR, k, h, o, f => by
    unfold chkE at h
    split at h
    · rename_i y p l pos
      obtain ⟨h1, h2⟩ := bk h
      obtain ⟨h1, h4⟩ := bk h1
      obtain ⟨hcm, h1⟩ := bk h1
      have room := o.room hcm
      obtain ⟨g1, g2⟩ := f.gl h4
      have r := chkEs_ok es h2 o f
      rcases Bool.or_eq_true_iff.mp h1 with h1 | h1
      · obtain ⟨h1, h3⟩ := bk h1
        obtain ⟨q1, q2⟩ := o.fns _ (of_decide_eq_true h1)
        have hd : dv = [] := List.isEmpty_iff.mp h3
        subst hd
        cases l with
        | nil =>
          cases es with
          | nil => exact pt_plain rfl (le_call0 o.hK q1 room g1 q2 o.tk g2)
          | cons e r => unfold chkEs at h2; cases h2
        | cons e l => exact pt_plain rfl (le_call o.hK q1 room g1 q2 o.tk r.2.1 g2 r.1)
      · obtain ⟨h1, h3⟩ := bk h1
        obtain ⟨⟨n', y', d'⟩, hq, hb⟩ := List.any_eq_true.mp h1
        obtain ⟨hb, b3⟩ := bk hb
        obtain ⟨b1, b2⟩ := bk hb
        have c1 : n' = n := of_decide_eq_true b1
        have c2 : y' = y := of_decide_eq_true b2
        have c3 : d' = dv := sameL_ok b3
        subst c1 c2 c3
        obtain ⟨q1, q2⟩ := o.fnD _ hq
        cases l with
        | nil => cases h3
        | cons e l => exact pt_plain rfl (le_callD o.hK q1 room g1 q2 o.tk r.2.1 g2 r.1)
    · cases h
  | .callk n es ks p, W, C, x, T, Γ, X, RR, k, h, o, f => by
    unfold chkE at h
    split at h
    · rename_i y p0 l kws pos
      obtain ⟨h1, h2⟩ := bk h
      obtain ⟨h1, h4⟩ := bk h1
      obtain ⟨hcm, h1⟩ := bk h1
      have room := o.room hcm
      obtain ⟨h2, h3⟩ := bk h2
      obtain ⟨g1, g2⟩ := f.gl h4
      obtain ⟨⟨n', y', m', ks', p'⟩, hq, hb⟩ := List.any_eq_true.mp h1
      obtain ⟨hb, b5⟩ := bk hb
      obtain ⟨hb, b4⟩ := bk hb
      obtain ⟨hb, b3⟩ := bk hb
      obtain ⟨b1, b2⟩ := bk hb
      have c1 : n' = n := of_decide_eq_true b1
      have c2 : y' = y := of_decide_eq_true b2
      have c3 : m' = es.len := of_decide_eq_true b3
      have c4 : kws.map (·.arg) = ks'.map some := of_decide_eq_true b4
      have c5 : p' = p := of_decide_eq_true b5
      subst c1 c2 c3 c5
      obtain ⟨q1, q2⟩ := o.fnK _ hq
      have r := chkEs_ok es h2 o f
      have rk := chkKs_ok ks h3 o f
      have lk : ks.len = ks'.length := by
        have := congrArg List.length c4
        rw [List.length_map, List.length_map] at this
        rw [← rk.2, this]
      have rk1 := rk.1
      rw [lk] at rk1
      cases l with
      | nil =>
        cases es with
        | nil => exact pt_plain rfl (le_callK0 o.hK q1 room g1 q2 o.tk g2 c4 rk1)
        | cons e r => unfold chkEs at h2; cases h2
      | cons e l => exact pt_plain rfl (le_callK o.hK q1 room g1 q2 o.tk r.2.1 g2 c4 r.1 rk1)
    · cases h
  | .callv i es, W, C, x, T, Γ, X, RR, k, h, o, f => by
    unfold chkE at h
    split at h
    · obtain ⟨h1, h2⟩ := bk h
      obtain ⟨h1, h3⟩ := bk h1
      obtain ⟨hcm, h1⟩ := bk h1
      have room := o.room hcm
      obtain ⟨a1, a2, a3, a4⟩ := f.see h3
      obtain ⟨c1, c2, c3⟩ := o.cv h1
      have r := chkEs_ok es h2 o f
      exact pt_plain rfl (le_callv o.hK c1 room a1 a2 a3 a4 c2 o.tk r.2.1 r.1 c3)
    · cases h
  | .lamc n e, W, C, x, T, Γ, X, RR, k, h, o, f => by
    unfold chkE at h
    split at h
    · obtain ⟨h, h6⟩ := bk h
      obtain ⟨h, h5⟩ := bk h
      obtain ⟨h, h4⟩ := bk h
      obtain ⟨h, h3⟩ := bk h
      obtain ⟨hcm, h2⟩ := bk h
      obtain ⟨h6, h7⟩ := bk h6
      obtain ⟨g1, g2⟩ := f.gl h4
      obtain ⟨j, c, P, jk, og, hf, TB, hcode, hmT, hu⟩ := o.lam h2
      obtain ⟨q1, q2⟩ := hf _ (of_decide_eq_true h3)
      have L0 := LamX.lamS_by h5
      have L : LamX.LamS X.env.scope _ := ⟨L0.kind, L0.co, L0.gen, L0.own, fun y hy e => by rw [f.nm]; exact L0.free y hy e⟩
      refine pt_plain rfl (le_lamc o.hK q1 ((o.room hcm).mono jk) g1 q2 o.tk g2 TB hcode hmT hu L fun A outer s H E' ff c' R2 hr tk => ?_)
      refine (chkE_ok e h7 (X := LamX.lamCx X A outer s H E' _ ff c') (RR := R2) (k := j) ⟨o.hK, og.fr, hr.units, fun _ => hr, tk, fun _ => rfl, og.fns, og.fnK, og.fnD, og.cons, og.tbl, og.cv, og.mks, og.mets, og.flds, og.iso, og.rss, og.hcl, og.exm, og.xfs, og.dcs, og.isx, og.isA, fun z => (by cases z), fun z => (by cases z), fun z => (by cases z)⟩
        ⟨f.N, f.nd, rfl, L.kind, fun _ z => (by cases z)⟩).1
    · cases h
  | .act i, W, C, x, T, Γ, X, RR, k, h, o, f => by
    unfold chkE at h
    split at h
    · obtain ⟨h, h3⟩ := bk h
      obtain ⟨h1, h2⟩ := bk h
      cases (of_decide_eq_true h2)
      exact pt_plain rfl (o.act h1 _ _ _ (f.see h3).1)
    · cases h
  | .meth n c a es dv, W, C, x, T, Γ, X, RR, k, h, o, f => by
    unfold chkE at h
    split at h
    · rename_i y m ap l pos
      obtain ⟨h, h8⟩ := bk h
      obtain ⟨h8, h9⟩ := bk h8
      obtain ⟨h, h7⟩ := bk h
      obtain ⟨h, h6⟩ := bk h
      obtain ⟨h, h5⟩ := bk h
      obtain ⟨h, h4⟩ := bk h
      obtain ⟨h, h3⟩ := bk h
      obtain ⟨h1, h2⟩ := bk h
      have hd : dv = [] := List.isEmpty_iff.mp h2
      subst hd
      obtain ⟨q1, q2⟩ := o.mets _ (of_decide_eq_true h3)
      have r := chkEs_ok es h9 o f
      refine pt_plain rfl (le_meth (m := es.len) o.hK q1 q2 (o.room h1) o.tk r.2.1 h4 h5 (of_decide_eq_true h6) (chkE_ok a h8 o f).1 ?_)
      cases l with
      | nil =>
        cases es with
        | nil => exact .inl ⟨rfl, rfl⟩
        | cons _ _ => cases h7
      | cons y l => exact .inr ⟨(by simp), r.1⟩
    · cases h
  | .make n c es fz, W, C, x, T, Γ, X, RR, k, h, o, f => by
    unfold chkE at h
    split at h
    · obtain ⟨h, h4⟩ := bk h
      obtain ⟨h, h3⟩ := bk h
      obtain ⟨h1, h2⟩ := bk h
      obtain ⟨g1, g2⟩ := f.gl h3
      obtain ⟨j, jk, q1, q2⟩ := o.mks _ (of_decide_eq_true h2)
      have r := chkEs_ok es h4 o f
      exact pt_plain rfl (le_make o.hK q1 ((o.room h1).mono jk) g1 q2 o.tk r.2.1 g2 r.1)
    · cases h
  | .bi b es, W, C, x, T, Γ, X, RR, k, h, o, f => by
    unfold chkE at h
    split at h
    · obtain ⟨h1, h2⟩ := bk h
      obtain ⟨h1, h3⟩ := bk h1
      obtain ⟨h1, h4⟩ := bk h1
      obtain ⟨hcm, h0⟩ := bk h1
      have e := of_decide_eq_true h4
      subst e
      have r := chkEs_ok es h2 o f
      exact pt_plain rfl (bi_go o h0 hcm (f.gl h3).1 r.2.1 r.1)
    · cases h
  | .isin e t, W, C, x, T, Γ, X, RR, k, h, o, f => by
    unfold chkE at h
    split at h
    · rename_i f' p y z p2 pos
      by_cases ho : ∃ c, t = .obj c
      · obtain ⟨c, rfl⟩ := ho
        have h : (decide (f' = ("isinstance" : Str)) && decide ((c, z) ∈ W.iso) && C.gl f' && C.gl z && noStar y && chkE W C e y) = true := h
        obtain ⟨h, h6⟩ := bk h
        obtain ⟨h, h5⟩ := bk h
        obtain ⟨h, h4⟩ := bk h
        obtain ⟨h, h3⟩ := bk h
        obtain ⟨h1, h2⟩ := bk h
        have e1 := of_decide_eq_true h1
        subst e1
        obtain ⟨q1, q2⟩ := o.iso _ (of_decide_eq_true h2)
        exact pt_plain rfl (le_isinO o.hK (f.gl h3).1 (o.fr _ (by unfold stdNames; simp)) (f.gl h4).1 q1 q2 (f.gl h4).2 h5 (chkE_ok e h6 o f).1)
      · have h : (t.on && decide (f' = ("isinstance" : Str)) && decide (z = Str.ofString t.nm) && C.gl f' && C.gl z && noStar y && chkE W C e y) = true := by
          cases t <;> first | exact h | exact absurd ⟨_, rfl⟩ ho
        obtain ⟨h, h7⟩ := bk h
        obtain ⟨h, h6⟩ := bk h
        obtain ⟨h, h5⟩ := bk h
        obtain ⟨h, h4⟩ := bk h
        obtain ⟨h, h3⟩ := bk h
        obtain ⟨h1, h2⟩ := bk h
        have e1 := of_decide_eq_true h2
        have e2 := of_decide_eq_true h3
        subst e1 e2
        obtain ⟨s1, s2⟩ := std_ty h1
        exact pt_plain rfl (le_isin o.hK (f.gl h4).1 (o.fr _ (by unfold stdNames; simp)) (f.gl h5).1 (o.fr _ s1) s2 (by cases t <;> first | decide | exact nomatch h1) (f.gl h5).2 h6 h1 (chkE_ok e h7 o f).1)
    · cases h
  | .bits e, W, C, x, T, Γ, X, RR, k, h, o, f => by
    unfold chkE at h
    split at h
    · obtain ⟨h, h4⟩ := bk h
      obtain ⟨h, h3⟩ := bk h
      obtain ⟨h1, h2⟩ := bk h
      have e1 := of_decide_eq_true h1
      subst e1
      exact pt_plain rfl (le_bits h2 h3 (chkE_ok e h4 o f).1)
    · cases h
  | .count _ _, W, C, x, T, Γ, X, RR, k, h, o, f => by
    unfold chkE at h
    cases h
  | .fld e n, W, C, x, T, Γ, X, RR, k, h, o, f => by
    unfold chkE at h
    split at h
    · obtain ⟨h, h3⟩ := bk h
      obtain ⟨h1, h2⟩ := bk h
      exact pt_plain rfl (le_fld o.hK (o.tbl ▸ of_decide_eq_true h1) h2 (chkE_ok e h3 o f).1)
    · cases h
  | .xfld i cs, W, C, x, T, Γ, X, RR, k, h, o, f => by
    unfold chkE at h
    split at h
    · obtain ⟨h, h3⟩ := bk h
      obtain ⟨h1, h2⟩ := bk h
      obtain ⟨a1, a2, a3, a4⟩ := f.see h1
      exact pt_plain rfl (le_xfld o.hK a1 a2 a3 a4 h2 fun c hc => o.xfs (c, _) (of_decide_eq_true (List.all_eq_true.mp h3 c hc)))
    · cases h
  | .oidx i e, W, C, x, T, Γ, X, RR, k, h, o, f => by
    unfold chkE at h
    split at h
    · obtain ⟨h, h3⟩ := bk h
      obtain ⟨h1, h2⟩ := bk h
      obtain ⟨a1, a2, a3, a4⟩ := f.see h1
      exact pt_plain rfl (le_oidx o.hK a1 a2 a3 a4 h2 (chkE_ok e h3 o f).1)
    · cases h
  | .olen i, W, C, x, T, Γ, X, RR, k, h, o, f => by
    unfold chkE at h
    split at h
    · obtain ⟨h, h3⟩ := bk h
      obtain ⟨h1, h2⟩ := bk h
      obtain ⟨a1, a2, a3, a4⟩ := f.see h3
      have e := of_decide_eq_true h1
      subst e
      exact pt_plain rfl (le_olen o.hK (f.gl h2).1 (o.fr _ (by unfold stdNames; simp)) a1 a2 a3 a4)
    · cases h
  | .idx a b, W, C, x, T, Γ, X, RR, k, h, o, f => by
    unfold chkE at h
    split at h
    · obtain ⟨h1, h2⟩ := bk h
      obtain ⟨h2, h3⟩ := bk h2
      exact pt_plain rfl (le_idx o.hK h1 (chkE_ok a h2 o f).1 (chkE_ok b h3 o f).1)
    · cases h
  | .slTo a b, W, C, x, T, Γ, X, RR, k, h, o, f => by
    unfold chkE at h
    split at h
    · obtain ⟨h2, h3⟩ := bk h
      exact pt_plain rfl (le_slTo o.hK (chkE_ok a h2 o f).1 (chkE_ok b h3 o f).1)
    · cases h
  | .slFrom a b, W, C, x, T, Γ, X, RR, k, h, o, f => by
    unfold chkE at h
    split at h
    · obtain ⟨h2, h3⟩ := bk h
      exact pt_plain rfl (le_slFrom o.hK (chkE_ok a h2 o f).1 (chkE_ok b h3 o f).1)
    · cases h
  | .slOf a b c, W, C, x, T, Γ, X, RR, k, h, o, f => by
    unfold chkE at h
    split at h
    · obtain ⟨h2, h3⟩ := bk h
      obtain ⟨h3, h4⟩ := bk h3
      exact pt_plain rfl (le_slOf o.hK (chkE_ok a h2 o f).1 (chkE_ok b h3 o f).1 (chkE_ok c h4 o f).1)
    · cases h
  | .slRev a, W, C, x, T, Γ, X, RR, k, h, o, f => by
    unfold chkE at h
    split at h
    · exact pt_plain rfl (le_slRev o.hK (chkE_ok a h o f).1)
    · cases h
  | .slRev2 a, W, C, x, T, Γ, X, RR, k, h, o, f => by
    unfold chkE at h
    split at h
    · exact pt_plain rfl (le_rev2 o.hK (chkE_ok a h o f).1)
    · cases h
  | .sset a, W, C, x, T, Γ, X, RR, k, h, o, f => by
    unfold chkE at h
    split at h
    · obtain ⟨h, h1⟩ := bk h
      obtain ⟨h, h2⟩ := bk h
      obtain ⟨h, h3⟩ := bk h
      obtain ⟨h, h4⟩ := bk h
      obtain ⟨h, h5⟩ := bk h
      obtain ⟨hcm, h6⟩ := bk h
      have e1 := of_decide_eq_true h6
      have e2 := of_decide_eq_true h5
      subst e1
      subst e2
      exact pt_plain rfl (le_sset o.hK (o.calm hcm) (f.gl h4).1 (o.fr _ (by unfold stdNames; simp)) (f.gl h3).1 (o.fr _ (by unfold stdNames; simp)) h2 (chkE_ok a h1 o f).1)
    · cases h
  | .slRevTo a, W, C, x, T, Γ, X, RR, k, h, o, f => by
    unfold chkE at h
    split at h
    · exact pt_plain rfl (le_rev0 o.hK (chkE_ok a h o f).1)
    · cases h
  | .dget ps ek ed, W, C, x, T, Γ, X, RR, k, h, o, f => by
    unfold chkE chkDget at h
    split at h
    · split at h
      · obtain ⟨h, h8⟩ := bk h
        obtain ⟨h, h7⟩ := bk h
        obtain ⟨h, h6⟩ := bk h
        obtain ⟨h, h5⟩ := bk h
        obtain ⟨h, h4⟩ := bk h
        obtain ⟨h, h3⟩ := bk h
        obtain ⟨h1, h2⟩ := bk h
        obtain ⟨s1, s2⟩ := bk h8
        have e1 := of_decide_eq_true h1
        have e2 := of_decide_eq_true h2
        have e3 := of_decide_eq_true h3
        have e4 := of_decide_eq_true h4
        have e5 := of_decide_eq_true h5
        subst e1 e2 e3 e4 e5
        obtain ⟨a1, a2, a3, a4⟩ := f.see s1
        obtain ⟨b1, b2, b3, b4⟩ := f.see s2
        exact pt_plain rfl (le_dget (of_decide_eq_true h6) o.units a1 a2 a3 a4 b1 b2 b3 b4 h7)
      · cases h
    · cases h
  | .gdin g ps neg e, W, C, x, T, Γ, X, RR, k, h, o, f => by
    unfold chkE at h
    split at h
    · obtain ⟨h, h4⟩ := bk h
      obtain ⟨h, h3⟩ := bk h
      obtain ⟨h1, h2⟩ := bk h
      obtain ⟨q, hq, hh⟩ := List.any_eq_true.mp h1
      obtain ⟨hh, q3⟩ := bk hh
      obtain ⟨q1, q2⟩ := bk hh
      obtain ⟨d, m, D⟩ := o.dcs q hq
      have e2 := of_decide_eq_true q2
      have e3 := psSame_ok q3
      have e4 := of_decide_eq_true h2
      subst e4
      rw [e2] at m
      rw [e3] at D
      exact ⟨le_gdin o.hK (f.gl h3).1 m (f.gl h3).2 D (chkE_ok e h4 o f).1, fun _ => lt_gdin o.hK (f.gl h3).1 m (f.gl h3).2 D (chkE_ok e h4 o f).1⟩
    · cases h
  | .gdidx g ps e, W, C, x, T, Γ, X, RR, k, h, o, f => by
    unfold chkE at h
    split at h
    · obtain ⟨h, h4⟩ := bk h
      obtain ⟨h, h3⟩ := bk h
      obtain ⟨h1, h2⟩ := bk h
      obtain ⟨q, hq, hh⟩ := List.any_eq_true.mp h1
      obtain ⟨hh, q3⟩ := bk hh
      obtain ⟨q1, q2⟩ := bk hh
      obtain ⟨d, m, D⟩ := o.dcs q hq
      have e2 := of_decide_eq_true q2
      have e3 := psSame_ok q3
      rw [e2] at m
      rw [e3] at D
      exact pt_plain rfl (le_gdidx o.hK (f.gl h2).1 m (f.gl h2).2 D h3 (chkE_ok e h4 o f).1)
    · cases h
  | .gdget _ _ _, W, C, x, T, Γ, X, RR, k, h, o, f => by unfold chkE at h; cases h
  | .isx i c, W, C, x, T, Γ, X, RR, k, h, o, f => by
    unfold chkE at h
    split at h
    · obtain ⟨h, h5⟩ := bk h
      obtain ⟨h, h4⟩ := bk h
      obtain ⟨h, h3⟩ := bk h
      obtain ⟨h1, h2⟩ := bk h
      have e1 := of_decide_eq_true h1
      subst e1
      obtain ⟨a1, a2, a3, a4⟩ := f.see h3
      obtain ⟨m, kf⟩ := o.isx _ (of_decide_eq_true h4)
      exact pt_plain rfl (le_isx o.hK (f.gl h2).1 (o.fr _ (by unfold stdNames; simp)) a1 a2 a3 a4 (f.gl h5).1 m (f.gl h5).2 kf)
    · cases h
  | .isxA i, W, C, x, T, Γ, X, RR, k, h, o, f => by
    unfold chkE at h
    split at h
    · obtain ⟨h, h6⟩ := bk h
      obtain ⟨h, h5⟩ := bk h
      obtain ⟨h, h4⟩ := bk h
      obtain ⟨h, h3⟩ := bk h
      obtain ⟨h1, h2⟩ := bk h
      have e1 := of_decide_eq_true h1
      have e2 := of_decide_eq_true h4
      subst e1 e2
      obtain ⟨a1, a2, a3, a4⟩ := f.see h3
      obtain ⟨m, kf⟩ := o.isA h5
      exact pt_plain rfl (le_isxA o.hK (f.gl h2).1 (o.fr _ (by unfold stdNames; simp)) a1 a2 a3 a4 (f.gl h6).1 m kf)
    · cases h
  | .cntB a, W, C, x, T, Γ, X, RR, k, h, o, f => by
    unfold chkE at h
    split at h
    · obtain ⟨h, h4⟩ := bk h
      obtain ⟨h, h3⟩ := bk h
      obtain ⟨h1, h2⟩ := bk h
      have e1 := of_decide_eq_true h1
      subst e1
      exact pt_plain rfl (le_cntB o.hK o.units h2 h3 (chkE_ok a h4 o f).1)
    · cases h
  | .dctM, W, C, x, T, Γ, X, RR, k, h, o, f => by
    unfold chkE at h
    split at h
    · obtain ⟨h, h4⟩ := bk h
      obtain ⟨h, h3⟩ := bk h
      obtain ⟨h1, h2⟩ := bk h
      have e1 := of_decide_eq_true h1
      have e2 := of_decide_eq_true h2
      have e3 := of_decide_eq_true h3
      have e4 := of_decide_eq_true h4
      subst e1 e2 e3 e4
      exact pt_plain rfl le_dctM
    · cases h
  | .dictP a, W, C, x, T, Γ, X, RR, k, h, o, f => by
    unfold chkE at h
    split at h
    · obtain ⟨h, h5⟩ := bk h
      obtain ⟨h, h4⟩ := bk h
      obtain ⟨h, h3⟩ := bk h
      obtain ⟨h1, h2⟩ := bk h
      have e1 := of_decide_eq_true h1
      subst e1
      exact pt_plain rfl (le_dictP o.hK (o.calm h2) (f.gl h3).1 (o.fr _ (by unfold stdNames; simp)) h4 (chkE_ok a h5 o f).1)
    · cases h
  | .midx a b, W, C, x, T, Γ, X, RR, k, h, o, f => by
    unfold chkE at h
    split at h
    · obtain ⟨h1, h⟩ := bk h
      obtain ⟨h2, h3⟩ := bk h
      exact pt_plain rfl (le_midx o.units h1 (chkE_ok a h2 o f).1 (chkE_ok b h3 o f).1)
    · cases h
  | .sidx a b, W, C, x, T, Γ, X, RR, k, h, o, f => by
    unfold chkE at h
    split at h
    · obtain ⟨h1, h2⟩ := bk h
      obtain ⟨h2, h3⟩ := bk h2
      exact pt_plain rfl (le_sidx (ix_ok h1) (chkE_ok a h2 o f).1 (chkE_ok b h3 o f).1)
    · cases h
  | .sslT a b, W, C, x, T, Γ, X, RR, k, h, o, f => by
    unfold chkE at h
    split at h
    · obtain ⟨h2, h3⟩ := bk h
      exact pt_plain rfl (le_sslT (chkE_ok a h2 o f).1 (chkE_ok b h3 o f).1)
    · cases h
  | .sslF a b, W, C, x, T, Γ, X, RR, k, h, o, f => by
    unfold chkE at h
    split at h
    · obtain ⟨h2, h3⟩ := bk h
      exact pt_plain rfl (le_sslF (chkE_ok a h2 o f).1 (chkE_ok b h3 o f).1)
    · cases h
  | .ssl a b c, W, C, x, T, Γ, X, RR, k, h, o, f => by
    unfold chkE at h
    split at h
    · obtain ⟨h2, h3⟩ := bk h
      obtain ⟨h3, h4⟩ := bk h3
      exact pt_plain rfl (le_ssl (chkE_ok a h2 o f).1 (chkE_ok b h3 o f).1 (chkE_ok c h4 o f).1)
    · cases h
  | .sin a b, W, C, x, T, Γ, X, RR, k, h, o, f => by
    unfold chkE at h
    split at h
    · obtain ⟨h1, h2⟩ := bk h
      obtain ⟨h1, h3⟩ := bk h1
      obtain ⟨h4, h5⟩ := bk h2
      have e := of_decide_eq_true h1
      subst e
      have n := nomark_ok (op := .in_) (set_no h3)
      exact ⟨le_sin n (chkE_ok a h4 o f).1 (chkE_ok b h5 o f).1, fun _ => lt_sin n (chkE_ok a h4 o f).1 (chkE_ok b h5 o f).1⟩
    · cases h
  | .strI a, W, C, x, T, Γ, X, RR, k, h, o, f => by
    unfold chkE at h
    split at h
    · obtain ⟨h, h5⟩ := bk h
      obtain ⟨h, h4⟩ := bk h
      obtain ⟨h1, h3⟩ := bk h
      have e1 := of_decide_eq_true h1
      subst e1
      exact pt_plain rfl (le_strI (f.gl h3).1 (o.fr _ (by unfold stdNames; simp)) h4 (chkE_ok a h5 o f).1)
    · cases h
  | .intt a, W, C, x, T, Γ, X, RR, k, h, o, f => by
    unfold chkE at h
    split at h
    · obtain ⟨h, h5⟩ := bk h
      obtain ⟨h, h4⟩ := bk h
      obtain ⟨h1, h3⟩ := bk h
      have e1 := of_decide_eq_true h1
      subst e1
      exact pt_plain rfl (le_intt (f.gl h3).1 (o.fr _ (by unfold stdNames; simp)) h4 (chkE_ok a h5 o f).1)
    · cases h
  | .listS a, W, C, x, T, Γ, X, RR, k, h, o, f => by
    unfold chkE at h
    split at h
    · obtain ⟨h, h5⟩ := bk h
      obtain ⟨h, h4⟩ := bk h
      obtain ⟨h, h3⟩ := bk h
      obtain ⟨hcm, h1⟩ := bk h
      have e1 := of_decide_eq_true h1
      subst e1
      exact pt_plain rfl (le_listS (o.calm hcm) (f.gl h3).1 (o.fr _ (by unfold stdNames; simp)) h4 (chkE_ok a h5 o f).1)
    · cases h
  | .dgetN ps ek, W, C, x, T, Γ, X, RR, k, h, o, f => by
    unfold chkE at h
    split at h
    · split at h
      · obtain ⟨h, h7⟩ := bk h
        obtain ⟨h, h6⟩ := bk h
        obtain ⟨h, h5⟩ := bk h
        obtain ⟨h, h4⟩ := bk h
        obtain ⟨h, h3⟩ := bk h
        obtain ⟨h1, h2⟩ := bk h
        have e5 := of_decide_eq_true h5
        subst e5
        obtain ⟨a1, a2, a3, a4⟩ := f.see h7
        exact pt_plain rfl (le_dgetN h1 (of_decide_eq_true h2) (of_decide_eq_true h3) (of_decide_eq_true h4) o.units a1 a2 a3 a4 h6)
      · cases h
    · cases h
  | .dgetD ps ek ed, W, C, x, T, Γ, X, RR, k, h, o, f => by
    unfold chkE at h
    split at h
    · split at h
      · obtain ⟨h, h9⟩ := bk h
        obtain ⟨h, h8⟩ := bk h
        obtain ⟨h, h7⟩ := bk h
        obtain ⟨h, h6⟩ := bk h
        obtain ⟨h, h5⟩ := bk h
        obtain ⟨h, h4⟩ := bk h
        obtain ⟨h, h3⟩ := bk h
        obtain ⟨h1, h2⟩ := bk h
        have e5 := of_decide_eq_true h5
        subst e5
        obtain ⟨a1, a2, a3, a4⟩ := f.see h7
        have hz := (chkE_ok ed h9 o f).1
        unfold flatX at h8
        split at h8
        · exact pt_plain rfl (le_dgetD h1 (of_decide_eq_true h2) (of_decide_eq_true h3) (of_decide_eq_true h4) o.units a1 a2 a3 a4 ⟨rfl, rfl, h6, rfl⟩ hz)
        · exact pt_plain rfl (le_dgetD h1 (of_decide_eq_true h2) (of_decide_eq_true h3) (of_decide_eq_true h4) o.units a1 a2 a3 a4 ⟨rfl, rfl, h6, rfl⟩ hz)
        · cases h8
      · cases h
    · cases h
  | .vget i j l, W, C, x, T, Γ, X, RR, k, h, o, f => by
    unfold chkE at h
    split at h
    · obtain ⟨h, h6⟩ := bk h
      obtain ⟨h, h5⟩ := bk h
      obtain ⟨h, h4⟩ := bk h
      obtain ⟨h, h3⟩ := bk h
      obtain ⟨h1, h2⟩ := bk h
      have e1 := of_decide_eq_true h1
      subst e1
      obtain ⟨a1, a2, a3, a4⟩ := f.see h2
      obtain ⟨b1, b2, b3, b4⟩ := f.see h3
      obtain ⟨c1, c2, c3, c4⟩ := f.see h4
      exact pt_plain rfl (le_vget o.units a1 a2 a3 a4 b1 b2 b3 b4 c1 c2 c3 c4 h5 h6)
    · cases h
  | .calle a es, W, C, x, T, Γ, X, RR, k, h, o, f => by
    unfold chkE at h
    split at h
    · obtain ⟨h, h2⟩ := bk h
      obtain ⟨hcm, h1⟩ := bk h
      obtain ⟨h2, h3⟩ := bk h2
      obtain ⟨c1, c2, c3⟩ := o.cv h1
      have r := chkEs_ok es h3 o f
      exact pt_plain rfl (le_calle o.hK c1 (o.room hcm) o.tk r.2.1 (chkE_ok a h2 o f).1 r.1 c3 rfl)
    · cases h
  | .lidx a b, W, C, x, T, Γ, X, RR, k, h, o, f => by
    unfold chkE at h
    split at h
    · obtain ⟨h, h5⟩ := bk h
      obtain ⟨h, h4⟩ := bk h
      obtain ⟨h, h3⟩ := bk h
      obtain ⟨h1, h2⟩ := bk h
      obtain ⟨h5, h6⟩ := bk h5
      have e1 := of_decide_eq_true h1
      subst e1
      exact pt_plain rfl (le_lidx o.hK h2 h3 h4 (chkE_ok a h5 o f).1 (chkE_ok b h6 o f).1)
    · cases h
  | .maxP a, W, C, x, T, Γ, X, RR, k, h, o, f => by
    unfold chkE at h
    split at h
    · obtain ⟨h, h5⟩ := bk h
      obtain ⟨h, h4⟩ := bk h
      obtain ⟨h, h3⟩ := bk h
      obtain ⟨hcm, h2⟩ := bk h
      have e1 := of_decide_eq_true h2
      subst e1
      exact pt_plain rfl (le_maxP o.hK (o.calm hcm) o.units (f.gl h3).1 (o.fr _ (by unfold stdNames; simp)) h4 (chkE_ok a h5 o f).1)
    · cases h
  | .slStep a b, W, C, x, T, Γ, X, RR, k, h, o, f => by
    unfold chkE at h
    split at h
    · obtain ⟨h1, h2⟩ := bk h
      exact pt_plain rfl (le_slStep o.hK (chkE_ok a h1 o f).1 (chkE_ok b h2 o f).1)
    · cases h
  | .lrng1 b, W, C, x, T, Γ, X, RR, k, h, o, f => by
    unfold chkE at h
    split at h
    · obtain ⟨h, h1⟩ := bk h
      obtain ⟨h, h2⟩ := bk h
      obtain ⟨h, h3⟩ := bk h
      obtain ⟨h, h4⟩ := bk h
      obtain ⟨h, h5⟩ := bk h
      obtain ⟨hcm, h6⟩ := bk h
      have e1 := of_decide_eq_true h6
      have e2 := of_decide_eq_true h5
      subst e1
      subst e2
      exact pt_plain rfl (le_lrng1 o.hK (o.calm hcm) (f.gl h4).1 (o.fr _ (by unfold stdNames; simp)) (f.gl h3).1 (o.fr _ (by unfold stdNames; simp)) h2 (chkE_ok b h1 o f).1)
    · cases h
  | .rrng1 b, W, C, x, T, Γ, X, RR, k, h, o, f => by
    unfold chkE at h
    split at h
    · obtain ⟨h, h1⟩ := bk h
      obtain ⟨h, h2⟩ := bk h
      obtain ⟨h, h3⟩ := bk h
      obtain ⟨h, h4⟩ := bk h
      obtain ⟨h, h5⟩ := bk h
      obtain ⟨hcm, h6⟩ := bk h
      have e1 := of_decide_eq_true h6
      have e2 := of_decide_eq_true h5
      subst e1
      subst e2
      exact pt_plain rfl (le_rrng1 o.hK (o.calm hcm) (f.gl h4).1 (o.fr _ (by unfold stdNames; simp)) (f.gl h3).1 (o.fr _ (by unfold stdNames; simp)) h2 (chkE_ok b h1 o f).1)
    · cases h
  | .lrng2 a b, W, C, x, T, Γ, X, RR, k, h, o, f => by
    unfold chkE at h
    split at h
    · obtain ⟨h, h1⟩ := bk h
      obtain ⟨h0, h1⟩ := bk h1
      obtain ⟨h, h2⟩ := bk h
      obtain ⟨h, h7⟩ := bk h
      obtain ⟨h, h3⟩ := bk h
      obtain ⟨h, h4⟩ := bk h
      obtain ⟨h, h5⟩ := bk h
      obtain ⟨hcm, h6⟩ := bk h
      have e1 := of_decide_eq_true h6
      have e2 := of_decide_eq_true h5
      subst e1
      subst e2
      exact pt_plain rfl (le_lrng2 o.hK (o.calm hcm) (f.gl h4).1 (o.fr _ (by unfold stdNames; simp)) (f.gl h3).1 (o.fr _ (by unfold stdNames; simp)) h7 h2 (chkE_ok a h0 o f).1 (chkE_ok b h1 o f).1)
    · cases h
  | .oemp _, W, C, x, T, Γ, X, RR, k, h, o, f => by unfold chkE at h; cases h
  | .lemp neg a, W, C, x, T, Γ, X, RR, k, h, o, f => by
    unfold chkE at h
    split at h
    · obtain ⟨h1, h2⟩ := bk h
      have e := of_decide_eq_true h1
      subst e
      exact ⟨le_lemp o.hK o.units (chkE_ok a h2 o f).1 (le_lst la_nil), fun _ => lt_lemp o.hK o.units (chkE_ok a h2 o f).1 (le_lst la_nil)⟩
    · cases h
  | .comp t it c e own, W, C, x, T, Γ, X, RR, k, h, o, f => by
    unfold chkE at h
    split at h
    · rename_i elt tg iter ifs scope pos
      obtain ⟨h1, h2⟩ := bk h
      obtain ⟨h1, h3⟩ := bk h1
      obtain ⟨hcm, h1⟩ := bk h1
      have calm := o.calm hcm
      obtain ⟨h2, h4⟩ := bk h2
      obtain ⟨h4, h5⟩ := bk h4
      obtain ⟨h5, h6⟩ := bk h5
      have ok := blk_ok f h1
      have ob := fun s H (A : Addr) (cl : List (Str × Addr)) fp F0 G0 => o.blk s H scope (compEnvC scope cl A X.env) fp F0 G0
      have fb := fun s H (A : Addr) (cl : List (Str × Addr)) fp => f.blk s H scope ok.kind A cl fp
      have q := le_comp (RR := RR) (Γ := Γ) (T := T) (t := t) (it := it) (c := c) (e := e) (elt := elt) (pos := pos) calm (f.N ▸ f.nd) (chkI_ok it h2 o f) ok
        (fun s H A cl fp => by rw [ownP_snd]; exact chkT_ok t h4 o.hK calm (fb s H A cl fp))
        (fun s H A cl fp => chkC_ok c h5 (fun F0 G0 => ob s H A cl fp F0 G0) (fb s H A cl fp))
        (fun s H A cl fp => PE.ex (α := Hp × Hp) fun a => (chkE_ok e h6 (ob s H A cl fp a.1 a.2) (fb s H A cl fp)).1) (fold_ok h3)
      rw [ownP_snd] at q
      exact pt_plain rfl q
    · cases h
theorem chkC_ok : ∀ (c : Es) {W : Wd} {C : CK} {x : List Expr} {T : Tb} {Γ : Gam} {X : Cx} {k : Nat}, chkC W C c x = true → (∀ F0 G0, Ok W T Γ X ⟨F0, G0, fun _ _ _ => False⟩ k) → Fits C X → PTs X x (LTs T X.pn (wpT Γ c))
  | .nil, W, C, x, T, Γ, X, k, h, o, f => by
    unfold chkC at h
    cases x with
    | nil => exact lts_nil
    | cons _ _ => cases h
  | .cons e r, W, C, x, T, Γ, X, k, h, o, f => by
    unfold chkC at h
    split at h
    · obtain ⟨h1, h2⟩ := bk h
      obtain ⟨h4, h3⟩ := bk h2
      cases r with
      | nil => exact lts_one fun F0 G0 => (chkE_ok e h4 (o F0 G0) f).2 h1
      | cons _ _ => cases h3
    · cases h
theorem chkEs_ok : ∀ (es : Es) {W : Wd} {C : CK} {x : List Expr} {T : Tb} {Γ : Gam} {X : Cx} {RR : RRt} {k : Nat}, chkEs W C es x = true → Ok W T Γ X RR k → Fits C X → PA X x (LA T X RR es.len (wpEs Γ es)) ∧ x.all noStar = true ∧
    (0 < es.len → x.all tst = true → (∀ pos, PE X (.BoolOp .And x pos) (LE T X RR (wpAnd Γ es))) ∧ (∀ pos, PW X (.BoolOp .And x pos) (LT T X RR (wpAnd Γ es)))) ∧
    (0 < es.len → x.all tst = true → (∀ pos, PE X (.BoolOp .Or x pos) (LE T X RR (wpOr Γ es))) ∧ (∀ pos, PW X (.BoolOp .Or x pos) (LT T X RR (wpOr Γ es))))
  | .nil, W, C, x, T, Γ, X, RR, k, h, o, f => by
    unfold chkEs at h
    cases x with
    | nil => exact ⟨la_nil, rfl, fun z _ => absurd z (Nat.lt_irrefl _), fun z _ => absurd z (Nat.lt_irrefl _)⟩
    | cons _ _ => cases h
  | .cons e r, W, C, x, T, Γ, X, RR, k, h, o, f => by
    unfold chkEs at h
    split at h
    · rename_i y ys
      obtain ⟨h1, h2⟩ := bk h
      obtain ⟨h2, h3⟩ := bk h2
      have qe := chkE_ok e h2 o f
      have qr := chkEs_ok r h3 o f
      refine ⟨la_cons h1 qe.1 qr.1, by rw [List.all_cons, h1, qr.2.1]; rfl, fun _ h9 => ?_, fun _ h9 => ?_⟩
      all_goals (rw [List.all_cons] at h9; obtain ⟨h0, h9⟩ := bk h9)
      · cases r with
        | nil =>
          cases ys with
          | nil => exact ⟨fun pos => le_and1 qe.1, fun pos => lw_and1 (qe.2 h0)⟩
          | cons _ _ => unfold chkEs at h3; cases h3
        | cons e2 r2 =>
          cases ys with
          | nil => unfold chkEs at h3; cases h3
          | cons y2 ys2 =>
            have q := qr.2.2.1 (Nat.succ_pos _) h9
            exact ⟨fun pos => le_and qe.1 (q.1 pos), fun pos => lw_and (qe.2 h0) (q.2 pos)⟩
      · cases r with
        | nil =>
          cases ys with
          | nil => exact ⟨fun pos => le_or1 qe.1, fun pos => lw_or1 (qe.2 h0)⟩
          | cons _ _ => unfold chkEs at h3; cases h3
        | cons e2 r2 =>
          cases ys with
          | nil => unfold chkEs at h3; cases h3
          | cons y2 ys2 =>
            have q := qr.2.2.2 (Nat.succ_pos _) h9
            exact ⟨fun pos => le_or qe.1 (q.1 pos), fun pos => lw_or (qe.2 h0) (q.2 pos)⟩
    · cases h
theorem chkKs_ok : ∀ (es : Es) {W : Wd} {C : CK} {x : List Keyword} {T : Tb} {Γ : Gam} {X : Cx} {RR : RRt} {k : Nat}, chkKs W C es x = true → Ok W T Γ X RR k → Fits C X → PK X x (LA T X RR es.len (wpEs Γ es)) ∧ x.length = es.len
  | .nil, W, C, x, T, Γ, X, RR, k, h, o, f => by
    unfold chkKs at h
    cases x with
    | nil => exact ⟨lk_nil, rfl⟩
    | cons _ _ => cases h
  | .cons e r, W, C, x, T, Γ, X, RR, k, h, o, f => by
    unfold chkKs at h
    split at h
    · obtain ⟨h1, h2⟩ := bk h
      have q := chkKs_ok r h2 o f
      exact ⟨lk_cons (chkE_ok e h1 o f).1 q.1, congrArg (· + 1) q.2⟩
    · cases h
theorem chkI_ok : ∀ (it : FF.It) {W : Wd} {C : CK} {x tg : Expr} {T : Tb} {Γ : Gam} {X : Cx} {RR : RRt} {k : Nat}, chkI W C it x tg = true → Ok W T Γ X RR k → Fits C X → PI X tg x (LI T X RR (wpI Γ it))
  | .seq e, W, C, x, tg, T, Γ, X, RR, k, h, o, f => by
    unfold chkI at h
    exact li_seq o.hK (chkE_ok e h o f).1
  | .rng1 a, W, C, x, tg, T, Γ, X, RR, k, h, o, f => by
    unfold chkI at h
    split at h
    · obtain ⟨h, h4⟩ := bk h
      obtain ⟨h, h3⟩ := bk h
      obtain ⟨h1, h2⟩ := bk h
      have e := of_decide_eq_true h1
      subst e
      exact li_rng1 (f.gl h2).1 (o.fr _ (by unfold stdNames; simp)) h3 (chkE_ok a h4 o f).1
    · cases h
  | .rng2 a b, W, C, x, tg, T, Γ, X, RR, k, h, o, f => by
    unfold chkI at h
    split at h
    · obtain ⟨h, h4⟩ := bk h
      obtain ⟨h4, h6⟩ := bk h4
      obtain ⟨h, h5⟩ := bk h
      obtain ⟨h, h3⟩ := bk h
      obtain ⟨h1, h2⟩ := bk h
      have e := of_decide_eq_true h1
      subst e
      exact li_rng2 (f.gl h2).1 (o.fr _ (by unfold stdNames; simp)) h3 h5 (chkE_ok a h4 o f).1 (chkE_ok b h6 o f).1
    · cases h
  | .rng3 _ _ _, W, C, x, tg, T, Γ, X, RR, k, h, o, f => by
    unfold chkI at h
    cases h
  | .zip a b, W, C, x, tg, T, Γ, X, RR, k, h, o, f => by
    unfold chkI at h
    split at h
    · split at h
      · obtain ⟨h, h4⟩ := bk h
        obtain ⟨h4, h6⟩ := bk h4
        obtain ⟨h, h5⟩ := bk h
        obtain ⟨h, h3⟩ := bk h
        obtain ⟨h1, h2⟩ := bk h
        have e := of_decide_eq_true h1
        subst e
        exact li_zip o.hK (f.gl h2).1 (o.fr _ (by unfold stdNames; simp)) h3 h5 (chkE_ok a h4 o f).1 (chkE_ok b h6 o f).1
      · cases h
    · cases h
  | .enum a, W, C, x, tg, T, Γ, X, RR, k, h, o, f => by
    unfold chkI at h
    split at h
    · split at h
      · obtain ⟨h, h4⟩ := bk h
        obtain ⟨h, h3⟩ := bk h
        obtain ⟨h1, h2⟩ := bk h
        have e := of_decide_eq_true h1
        subst e
        exact li_enum o.hK (f.gl h2).1 (o.fr _ (by unfold stdNames; simp)) h3 (chkE_ok a h4 o f).1
      · cases h
    · cases h
  | .enumS a, W, C, x, tg, T, Γ, X, RR, k, h, o, f => by
    unfold chkI at h
    split at h
    · split at h
      · obtain ⟨h, h4⟩ := bk h
        obtain ⟨h, h3⟩ := bk h
        obtain ⟨h1, h2⟩ := bk h
        have e := of_decide_eq_true h1
        subst e
        exact li_enumS (f.gl h2).1 (o.fr _ (by unfold stdNames; simp)) h3 (chkE_ok a h4 o f).1
      · cases h
    · cases h
  | .sgn a, W, C, x, tg, T, Γ, X, RR, k, h, o, f => by
    unfold chkI at h
    exact li_sgn (chkE_ok a h o f).1
end
end FF
namespace FF
open PySem PySem.Spec PyProof.Rows L2
/-- is the new list handed to the name at once -/
def handed (names : List (Str × NameKind)) (x : Str) (p lp : Pos) (s : Scope) : Bool := decide (names.lookup x = some .local) && (p.line == lp.line) && !(s.names.any fun (n, k) => n == x && (k == .local || k == .cell))
def swc (C : CK) (x : Str) (p : Pos) : Expr → Bool
  | .ListComp _ _ s lp => !handed C.names x p lp s
  | .SetComp _ _ _ _ => false
  | .DictComp _ _ _ _ _ => false
  | _ => true
def notLoc (C : CK) : Expr → Bool
  | .Name n _ => !decide (C.names.lookup n = some .local)
  | _ => true
def swpN (C : CK) (es : List Expr) : Expr → Bool
  | .Tuple vs _ _ => !(es.length == 2 || es.length == 3) || vs.length != es.length || vs.all (foldedForSure 8) || es.any (notLoc C)
  | _ => true
theorem fm_lt {α β : Type} {f : α → Option β} : ∀ {l : List α}, (∃ x ∈ l, f x = none) → (l.filterMap f).length < l.length
  | [], h => by obtain ⟨x, hx, _⟩ := h; cases hx
  | a :: r, h => by
    have le : (r.filterMap f).length ≤ r.length := List.length_filterMap_le ..
    rw [List.filterMap_cons]
    cases e : f a with
    | none =>
      show (r.filterMap f).length < r.length + 1
      omega
    | some b =>
      obtain ⟨x, hx, h2⟩ := h
      rcases List.mem_cons.mp hx with q | q
      · subst q; rw [e] at h2; cases h2
      · have := fm_lt (f := f) ⟨x, q, h2⟩
        show (r.filterMap f).length + 1 < r.length + 1
        omega
theorem swc_ok {C : CK} {X : Cx} {x : Str} {p : Pos} {e : Expr} {l : Nat} (f : Fits C X) (h : swc C x p e = true) : swapsWith e (some (.Name x p)) l X.env = pure false := by
  cases e with
  | ListComp elt gs s lp =>
    have h : (!handed C.names x p lp s) = true := h
    have h := nb h
    have hb : X.env.blockKind = .function := by unfold Env.blockKind; rw [f.kd]; rfl
    unfold swapsWith
    simp only [hb, Expr.pos]
    unfold handed at h
    rw [← f.nm] at h
    show (pure (_ && X.env.kindOf x == some .local && _ && _) : Sem Bool) = _
    congr 1
    unfold Env.kindOf
    have e1 : (X.env.scope.names.lookup x == some NameKind.local) = decide (X.env.scope.names.lookup x = some .local) := by
      cases X.env.scope.names.lookup x with
      | none => rfl
      | some k => cases k <;> rfl
    rw [e1]
    simpa using h
  | SetComp _ _ _ _ => cases h
  | DictComp _ _ _ _ _ => cases h
  | _ => rfl
theorem swc_yes {C : CK} {X : Cx} {x : Str} {p lp : Pos} {elt : Expr} {gs : List Comprehension} {s : Scope} {l : Nat} (f : Fits C X) (h : handed C.names x p lp s = true) : swapsWith (.ListComp elt gs s lp) (some (.Name x p)) l X.env = pure true := by
  have hb : X.env.blockKind = .function := by unfold Env.blockKind; rw [f.kd]; rfl
  unfold swapsWith
  simp only [hb, Expr.pos]
  unfold handed at h
  rw [← f.nm] at h
  show (pure (_ && X.env.kindOf x == some .local && _ && _) : Sem Bool) = _
  congr 1
  unfold Env.kindOf
  have e1 : (X.env.scope.names.lookup x == some NameKind.local) = decide (X.env.scope.names.lookup x = some .local) := by
    cases X.env.scope.names.lookup x with
    | none => rfl
    | some k => cases k <;> rfl
  rw [e1]
  simpa using h
theorem swp_no {C : CK} {X : Cx} {es : List Expr} {kk : Nat} {p : Pos} {e : Expr} (fi : Fits C X) (h : swpN C es e = true) : swappedStores [.Tuple es kk p] e X.env = pure none := by
  cases e with
  | Tuple vs k2 p2 =>
    have h : (!(es.length == 2 || es.length == 3) || vs.length != es.length || vs.all (foldedForSure 8) || es.any (notLoc C)) = true := h
    unfold swappedStores
    simp only []
    by_cases h1 : (!(es.length == 2 || es.length == 3) || vs.length != es.length || X.env.blockKind != .function) = true
    · rw [if_pos h1]
    · rw [if_neg h1]
      have h1 := Bool.eq_false_iff.mpr h1
      have h2 : (vs.all (foldedForSure 8) || es.any (notLoc C)) = true := by
        rw [Bool.or_eq_false_iff] at h1
        rw [h1.1, Bool.false_or] at h
        exact h
      split
      · rfl
      · split
        · rfl
        · rename_i h3 h4
          rcases Bool.or_eq_true_iff.mp h2 with h2 | h2
          · first | rfl | rw [if_pos h2]
          · exfalso
            refine h4 ?_
            rw [Bool.or_eq_true_iff]
            left
            obtain ⟨x, hx, hn⟩ := List.any_eq_true.mp h2
            refine bne_iff_ne.mpr (Nat.ne_of_lt (fm_lt ⟨x, hx, ?_⟩))
            cases x with
            | Name n q =>
              have hn : (!decide (C.names.lookup n = some .local)) = true := hn
              have : X.env.kindOf n ≠ some .local := by
                unfold Env.kindOf
                rw [fi.nm]
                exact of_decide_eq_false (nb hn)
              have e2 : (X.env.kindOf n == some NameKind.local) = false := by simpa using this
              simp only [e2, Bool.false_and, Bool.false_eq_true, if_false]
            | _ => rfl
  | _ => rfl
theorem swp_yes {C : CK} {X : Cx} {x y : Str} {px py pt pt2 : Pos} {kt k2 : Nat} {ea eb : Expr} (f : Fits C X) (hx : X.env.scope.names.lookup x = some .local) (hy : X.env.scope.names.lookup y = some .local) (ne : x ≠ y) (hl : (py.line == px.line) = true) (hsa : noStar ea = true) (hsb : noStar eb = true)
    (h1 : ([ea, eb].all (foldedForSure 8)) = false) (h2 : ([ea, eb].all (constantsAlone 8)) = false) : swappedStores [.Tuple [.Name x px, .Name y py] kt pt] (.Tuple [ea, eb] k2 pt2) X.env = pure (some [x, y]) := by
  have hb : X.env.blockKind = .function := by unfold Env.blockKind; rw [f.kd]; rfl
  have kx : X.env.kindOf x = some .local := hx
  have ky : X.env.kindOf y = some .local := hy
  unfold swappedStores
  simp only []
  rw [if_neg (by rw [hb]; simp)]
  split
  · rename_i z
    exfalso
    obtain ⟨e, he, z⟩ := List.any_eq_true.mp z
    have key : noStar e = true := by
      rcases List.mem_cons.mp he with q | q
      · rw [q]; exact hsa
      · rcases List.mem_cons.mp q with q | q
        · rw [q]; exact hsb
        · cases q
    cases e <;> first | (cases key; done) | (cases z; done)
  · have ne' : (y == x) = false := by simpa using fun e => ne e.symm
    have ne2 : (x == y) = false := by simpa using ne
    simp only [List.filterMap_cons, List.filterMap_nil, kx, ky, hl, h1, h2, Expr.pos, List.head?_cons, Option.map_some, Option.getD_some]
    simp [List.eraseDups, List.eraseDupsBy, List.eraseDupsBy.loop, ne', ne2]
theorem swp_yes3 {C : CK} {X : Cx} {x y w : Str} {px py pw pt pt2 : Pos} {kt k2 : Nat} {ea eb ec : Expr} (f : Fits C X) (hx : X.env.scope.names.lookup x = some .local) (hy : X.env.scope.names.lookup y = some .local) (hw : X.env.scope.names.lookup w = some .local) (n1 : x ≠ y) (n2 : x ≠ w) (n3 : y ≠ w) (hl : (py.line == px.line) = true) (hl2 : (pw.line == px.line) = true)
    (hsa : noStar ea = true) (hsb : noStar eb = true) (hsc : noStar ec = true) (h1 : ([ea, eb, ec].all (foldedForSure 8)) = false) (h2 : ([ea, eb, ec].all (constantsAlone 8)) = false) : swappedStores [.Tuple [.Name x px, .Name y py, .Name w pw] kt pt] (.Tuple [ea, eb, ec] k2 pt2) X.env = pure (some [x, y, w]) := by
  have hb : X.env.blockKind = .function := by unfold Env.blockKind; rw [f.kd]; rfl
  have kx : X.env.kindOf x = some .local := hx
  have ky : X.env.kindOf y = some .local := hy
  have kw : X.env.kindOf w = some .local := hw
  unfold swappedStores
  simp only []
  rw [if_neg (by rw [hb]; simp)]
  split
  · rename_i z
    exfalso
    obtain ⟨e, he, z⟩ := List.any_eq_true.mp z
    have key : noStar e = true := by
      rcases List.mem_cons.mp he with q | q
      · rw [q]; exact hsa
      · rcases List.mem_cons.mp q with q | q
        · rw [q]; exact hsb
        · rcases List.mem_cons.mp q with q | q
          · rw [q]; exact hsc
          · cases q
    cases e <;> first | (cases key; done) | (cases z; done)
  · have e1 : (y == x) = false := by simpa using fun e => n1 e.symm
    have e2 : (w == x) = false := by simpa using fun e => n2 e.symm
    have e3 : (w == y) = false := by simpa using fun e => n3 e.symm
    have e4 : (x == y) = false := by simpa using n1
    have e5 : (x == w) = false := by simpa using n2
    have e6 : (y == w) = false := by simpa using n3
    simp only [List.filterMap_cons, List.filterMap_nil, kx, ky, kw, hl, hl2, h1, h2, Expr.pos, List.head?_cons, Option.map_some, Option.getD_some]
    simp [List.eraseDups, List.eraseDupsBy, List.eraseDupsBy.loop, e1, e2, e3, e4, e5, e6]
def rngN0 (C : CK) : List Nat := List.range C.N.length
mutual
def chkS (W : Wd) (C : CK) : S → Stmt → Bool
  | .set i e, st => match st with
    | .Assign [.Name n p] v _ => C.own i n && swc C n p v && chkE W C e v
    | _ => false
  | .set2 i j e, st => match st with
    | .Assign [.Name n p, .Name m q] (.Call ef el ek ep) _ => C.own i n && C.own j m && chkE W C e (.Call ef el ek ep)
    | _ => false
  | .setC i e, st => match st with
    | .Assign [.Name n p] (.ListComp elt [⟨tg, iter, ifs, 0⟩] scope lp) _ => match e with
      | .comp t it c e own => W.cm && C.loc i n && handed C.names n p lp scope && (blkC C.N C.sc scope (ownP C own) && noSet iter && (chkI W C it iter tg && (chkT (C.blk scope) own t tg && (chkC W.blk (C.blk scope) c ifs && chkE W.blk (C.blk scope) e elt))))
      | _ => false
    | _ => false
  | .setCR i e, st => match st with
    | .Assign [.Name n p] (.ListComp elt [⟨tg, iter, ifs, 0⟩] scope lp) _ => match e with
      | .comp t it c e own => W.cm && C.loc i n && handed C.names n p lp scope && (blkC C.N C.sc scope (ownP C own) && noSet iter && (chkI W C it iter tg && (chkT (C.blk scope) own t tg && (chkC W.blk (C.blk scope) c ifs && chkE W.blk (C.blk scope) e elt))))
      | _ => false
    | _ => false
  | .setOwn i e, st => match st with
    | .Assign [.Name n p] v _ => C.own i n && (match e with
      | .lst es => match v with
        | .List l _ => chkEs W C es l
        | _ => false
      | .bin .add a b => match v with
        | .BinOp l .Add r _ => chkE W C a l && chkE W C b r
        | _ => false
      | _ => false)
    | _ => false
  | .setT ts e, st => match st with
    | .Assign [.Tuple es kk p] v _ => W.cm && chkT C (rngN0 C) (.tup ts) (.Tuple es kk p) && swpN C es v && chkE W C e v
    | _ => false
  | .setP i j a b, st => match st with
    | .Assign [.Tuple [.Name x px, .Name y py] _ _] (.Tuple [u, v] _ _) _ => W.cm && C.loc i x && C.loc j y && decide (i ≠ j) && decide (x ≠ y) && (py.line == px.line) && noStar u && noStar v && !([u, v].all (foldedForSure 8)) && !([u, v].all (constantsAlone 8)) && (chkE W C a u && chkE W C b v)
    | _ => false
  | .setPO i j a es, st => match st with
    | .Assign [.Tuple [.Name x px, .Name y py] _ _] (.Tuple [u, .List l lp] _ _) _ => W.cm && C.loc i x && C.loc j y && decide (i ≠ j) && decide (x ≠ y) && (py.line == px.line) && noStar u && noStar (.List l lp) && !([u, .List l lp].all (foldedForSure 8)) && !([u, .List l lp].all (constantsAlone 8)) && (chkE W C a u && chkEs W C es l)
    | _ => false
  | .setP3 i j l a b c, st => match st with
    | .Assign [.Tuple [.Name x px, .Name y py, .Name z pz] _ _] (.Tuple [u, v, w] _ _) _ => W.cm && C.loc i x && C.loc j y && C.loc l z && (decide (i ≠ j) && decide (i ≠ l) && decide (j ≠ l)) && (decide (x ≠ y) && decide (x ≠ z) && decide (y ≠ z)) && (py.line == px.line) && (pz.line == px.line) && noStar u && noStar v && noStar w && !([u, v, w].all (foldedForSure 8)) && !([u, v, w].all (constantsAlone 8)) && (chkE W C a u && (chkE W C b v && chkE W C c w))
    | _ => false
  | .setFld c o f e, st => match st with
    | .Assign [.Attribute y n _] v _ => decide (W.tbl[f]? = some n) && decide ((c, n) ∈ W.flds) && (chkE W C o y && chkE W C e v)
    | _ => false
  | .setIdx o i e, st => match st with
    | .Assign [.Subscript x y _] v _ => noSlice y && (chkE W C o x && (chkE W C i y && chkE W C e v))
    | _ => false
  | .expr e, st => match st with
    | .Expr v _ => noComp v && chkE W C e v
    | _ => false
  | .app i e, st => match st with
    | .Expr (.Call (.Attribute (.Name x _) m ap) [v] [] cp) _ => decide (m = ("append" : Str)) && C.see i x && (ap.endLine == cp.line) && noStar v && chkE W C e v
    | _ => false
  | .ext i e, st => match st with
    | .Expr (.Call (.Attribute (.Name x _) m ap) [v] [] cp) _ => decide (m = ("extend" : Str)) && C.see i x && (ap.endLine == cp.line) && noStar v && chkE W C e v
    | _ => false
  | .appR i e, st => match st with
    | .Expr (.Call (.Attribute (.Name x _) m ap) [v] [] cp) _ => decide (m = ("append" : Str)) && C.see i x && (ap.endLine == cp.line) && noStar v && chkE W C e v
    | _ => false
  | .extR i e, st => match st with
    | .Expr (.Call (.Attribute (.Name x _) m ap) [v] [] cp) _ => decide (m = ("extend" : Str)) && C.see i x && (ap.endLine == cp.line) && noStar v && chkE W C e v
    | _ => false
  | .appE o e, st => match st with
    | .Expr (.Call (.Attribute y m ap) [v] [] cp) _ => decide (m = ("append" : Str)) && noSuper y && (ap.endLine == cp.line) && noStar v && (chkE W C o y && chkE W C e v)
    | _ => false
  | .ret e, st => match st with
    | .Return (some v) _ => chkE W C e v
    | _ => false
  | .retN, st => match st with
    | .Return none _ => true
    | _ => false
  | .ite c a b, st => match st with
    | .If t x y _ => tst t && (chkE W C c t && (chkSs W C a x && chkSs W C b y))
    | _ => false
  | .whl c b, st => match st with
    | .While t x [] _ => W.cm && tst t && (chkE W C c t && chkSs W C b x)
    | _ => false
  | .for_ t it b, st => match st with
    | .For tg iter x [] _ => W.cm && noSet iter && (chkI W C it iter tg && (chkT C (rngN0 C) t tg && chkSs W C b x))
    | _ => false
  | .try_ b hs, st => match st with
    | .Try x (h1 :: r) [] [] _ => W.cm && (chkSs W.tr C b x && chkH W C hs (h1 :: r))
    | _ => false
  | .raise c e, st => match st with
    | .Raise (some (.Call (.Name y _) [v] [] _)) none _ => W.cm && decide ((c, y) ∈ W.rss) && C.gl y && noStar v && chkE W C e v
    | _ => false
  | .never, _ => false
  | .pass, st => match st with
    | .Pass _ => true
    | _ => false
  | .cont, st => match st with
    | .Continue _ => true
    | _ => false
  | .frz _, _ => false
  | .frzR _, _ => false
def chkSs (W : Wd) (C : CK) : Ss → List Stmt → Bool
  | .nil, l => l.isEmpty
  | .cons s r, l => match s with
    | .frz _ => chkSs W C r l
    | .frzR _ => chkSs W C r l
    | .never => true
    | s => match l with
      | st :: rest => chkS W C s st && chkSs W C r rest
      | [] => false
def chkH (W : Wd) (C : CK) : Hs → List ExceptHandler → Bool
  | .nil, l => l.isEmpty
  | .cons c n b r, l => match l with
    | .ExceptHandler (some (.Name x _)) nm (st :: rest) _ :: ks => decide ((c, x) ∈ W.hcl) && C.gl x && (match n with
      | none => (match nm with | none => true | some _ => false)
      | some i => (match nm with | some y => C.loc i y | none => false)) && (chkSs W.hot C b (st :: rest) && chkH W C r ks)
    | _ => false
end
/-- what a body's running leans on -/
structure Run (W : Wd) (X : Cx) : Prop where
  hp : W.cm = true → PassesOwn (model X.prog X.w) X.A X.env X.xe
  stk : W.cm = true → X.stack = X.env :: X.outer ∧ X.env.frame = some X.env.locals
theorem Run.hot {W : Wd} {X : Cx} {e : Addr} {pn : List (Addr × Obj)} : Run W.hot (X.suite e pn) := ⟨fun z => (by cases z), fun z => (by cases z)⟩
theorem Fits.suite {C : CK} {X : Cx} (f : Fits C X) {e : Addr} {pn : List (Addr × Obj)} : Fits C (X.suite e pn) := ⟨f.N, f.nd, f.nm, f.kd, f.fn⟩
theorem Fits.tr {C : CK} {X : Cx} (f : Fits C X) {pn : List (Addr × Obj)} {xe : Value → Shared → Prop} : Fits C (X.tr pn xe) := ⟨f.N, f.nd, f.nm, f.kd, f.fn⟩
theorem sole_sub {x y e : Expr} {p : Pos} {l : Nat} {env : PySem.Env} : swapsWithSole [.Subscript x y p] e l env = pure false := by cases e <;> rfl
theorem sole_tup {es : List Expr} {kk : Nat} {e : Expr} {p : Pos} {l : Nat} {env : PySem.Env} : swapsWithSole [.Tuple es kk p] e l env = pure false := by cases e <;> rfl
theorem swp_sub {x y e : Expr} {p : Pos} {env : PySem.Env} : swappedStores [.Subscript x y p] e env = pure none := by cases e <;> rfl
theorem le_setIdx0 {eo ei : Expr} {p : Pos} {env : PySem.Env} (h : noSlice ei = true) : ∀ v, assign (.Subscript eo ei p) env v = (do
      let ov ← holding [v] (eval eo env)
      let iv ← holding [v, ov] (eval ei env)
      standAt p
      holding [v, ov, iv] (setItem ov iv v)
      release [v, ov, iv] []) := by
  intro _
  cases ei <;> first | rfl | cases h
mutual
theorem chkS_ok : ∀ (s : S) {W : Wd} {C : CK} {x : Stmt} {T : Tb} {Γ : Gam} {X : Cx} {RR : RRt} {k : Nat}, chkS W C s x = true → Ok W T Γ X RR k → Fits C X → Run W X → PS X x (LS T X RR (wpS Γ s))
  | .set i e, W, C, x, T, Γ, X, RR, k, h, o, f, hp => by
    unfold chkS at h
    split at h
    · obtain ⟨h, h3⟩ := bk h
      obtain ⟨h1, h2⟩ := bk h
      obtain ⟨a1, a2, a3⟩ := f.own h1
      exact ls_set (f.N ▸ f.nd) a1 a2 a3 (swc_ok f h2) (chkE_ok e h3 o f).1
    · cases h
  | .set2 i j e, W, C, x, T, Γ, X, RR, k, h, o, f, hp => by
    unfold chkS at h
    split at h
    · obtain ⟨h, h3⟩ := bk h
      obtain ⟨h1, h2⟩ := bk h
      obtain ⟨a1, a2, a3⟩ := f.own h1
      obtain ⟨b1, b2, b3⟩ := f.own h2
      exact ls_set2 (f.N ▸ f.nd) a1 a2 a3 b1 b2 b3 (chkE_ok e h3 o f).1
    · cases h
  | .setC i e, W, C, x, T, Γ, X, RR, k, h, o, f, hp => by
    unfold chkS at h
    split at h
    · rename_i n p elt tg iter ifs scope lp pos
      split at h
      · rename_i t it c e own
        obtain ⟨h, h7⟩ := bk h
        obtain ⟨h8, h9⟩ := bk h
        obtain ⟨hcm, h8⟩ := bk h8
        have calm := o.calm hcm
        obtain ⟨h1, h2⟩ := bk h7
        obtain ⟨h1, h3⟩ := bk h1
        obtain ⟨h2, h4⟩ := bk h2
        obtain ⟨h4, h5⟩ := bk h4
        obtain ⟨h5, h6⟩ := bk h5
        have ok := blk_ok f h1
        obtain ⟨a1, a2⟩ := f.loc h8
        have ob := fun s H (A : Addr) (cl : List (Str × Addr)) fp F0 G0 => o.blk s H scope (compEnvC scope cl A X.env) fp F0 G0
        have fb := fun s H (A : Addr) (cl : List (Str × Addr)) fp => f.blk s H scope ok.kind A cl fp
        have q := ls_setC (RR := RR) (Γ := Γ) (T := T) (t := t) (it := it) (c := c) (e := e) (elt := elt) (pos := pos) (i := i) (y := n) (py := p) (lp := lp) calm (f.N ▸ f.nd) a1 a2 (swc_yes f h9) (chkI_ok it h2 o f) ok
          (fun s H A cl fp => by rw [ownP_snd]; exact chkT_ok t h4 o.hK calm (fb s H A cl fp))
          (fun s H A cl fp => chkC_ok c h5 (fun F0 G0 => ob s H A cl fp F0 G0) (fb s H A cl fp))
          (fun s H A cl fp => PE.ex (α := Hp × Hp) fun a => (chkE_ok e h6 (ob s H A cl fp a.1 a.2) (fb s H A cl fp)).1) (fold_ok h3)
        rw [ownP_snd] at q
        exact q
      · cases h
    · cases h
  | .setCR i e, W, C, x, T, Γ, X, RR, k, h, o, f, hp => by
    unfold chkS at h
    split at h
    · rename_i n p elt tg iter ifs scope lp pos
      split at h
      · rename_i t it c e own
        obtain ⟨h, h7⟩ := bk h
        obtain ⟨h8, h9⟩ := bk h
        obtain ⟨hcm, h8⟩ := bk h8
        have calm := o.calm hcm
        obtain ⟨h1, h2⟩ := bk h7
        obtain ⟨h1, h3⟩ := bk h1
        obtain ⟨h2, h4⟩ := bk h2
        obtain ⟨h4, h5⟩ := bk h4
        obtain ⟨h5, h6⟩ := bk h5
        have ok := blk_ok f h1
        obtain ⟨a1, a2⟩ := f.loc h8
        have ob := fun s H (A : Addr) (cl : List (Str × Addr)) fp F0 G0 => o.blk s H scope (compEnvC scope cl A X.env) fp F0 G0
        have fb := fun s H (A : Addr) (cl : List (Str × Addr)) fp => f.blk s H scope ok.kind A cl fp
        have q := ls_setCR (RR := RR) (Γ := Γ) (T := T) (t := t) (it := it) (c := c) (e := e) (elt := elt) (pos := pos) (i := i) (y := n) (py := p) (lp := lp) calm (f.N ▸ f.nd) a1 a2 (swc_yes f h9) (chkI_ok it h2 o f) ok
          (fun s H A cl fp => by rw [ownP_snd]; exact chkT_ok t h4 o.hK calm (fb s H A cl fp))
          (fun s H A cl fp => chkC_ok c h5 (fun F0 G0 => ob s H A cl fp F0 G0) (fb s H A cl fp))
          (fun s H A cl fp => PE.ex (α := Hp × Hp) fun a => (chkE_ok e h6 (ob s H A cl fp a.1 a.2) (fb s H A cl fp)).1) (fold_ok h3)
        rw [ownP_snd] at q
        exact q
      · cases h
    · cases h
  | .setOwn i e, W, C, x, T, Γ, X, RR, k, h, o, f, hp => by
    unfold chkS at h
    split at h
    · obtain ⟨h1, h2⟩ := bk h
      obtain ⟨a1, a2, a3⟩ := f.own h1
      split at h2
      · split at h2
        · exact ls_setOwn (f.N ▸ f.nd) a1 a2 a3 rfl (lf_lst (chkEs_ok _ h2 o f).1)
        · cases h2
      · split at h2
        · obtain ⟨h2, h3⟩ := bk h2
          exact ls_setOwn (f.N ▸ f.nd) a1 a2 a3 rfl (lf_add o.hK (chkE_ok _ h2 o f).1 (chkE_ok _ h3 o f).1)
        · cases h2
      · cases h2
    · cases h
  | .setT ts e, W, C, x, T, Γ, X, RR, k, h, o, f, hp => by
    unfold chkS at h
    split at h
    · obtain ⟨h, h3⟩ := bk h
      obtain ⟨h1, h2⟩ := bk h
      obtain ⟨hcm, h1⟩ := bk h1
      exact ls_setT (chkT_ok _ h1 o.hK (o.calm hcm) f) sole_tup (swp_no f h2) (chkE_ok e h3 o f).1
    · cases h
  | .setP i j a b, W, C, x, T, Γ, X, RR, k, h, o, f, hp => by
    unfold chkS at h
    split at h
    · obtain ⟨h, h10⟩ := bk h
      obtain ⟨h10, h11⟩ := bk h10
      obtain ⟨h, h9⟩ := bk h
      obtain ⟨h, h8⟩ := bk h
      obtain ⟨h, h7⟩ := bk h
      obtain ⟨h, h6⟩ := bk h
      obtain ⟨h, h5⟩ := bk h
      obtain ⟨h, h4⟩ := bk h
      obtain ⟨h, h3⟩ := bk h
      obtain ⟨h1, h2⟩ := bk h
      obtain ⟨hcm, h1⟩ := bk h1
      obtain ⟨a1, a2⟩ := f.loc h1
      obtain ⟨b1, b2⟩ := f.loc h2
      exact ls_setP (o.calm hcm) (f.N ▸ f.nd) a1 b1 (of_decide_eq_true h3) a2 b2 h6 h7 (swp_yes f a2 b2 (of_decide_eq_true h4) h5 h6 h7 (nb h8) (nb h9)) rfl (chkE_ok a h10 o f).1 (chkE_ok b h11 o f).1
    · cases h
  | .setPO i j a es, W, C, x, T, Γ, X, RR, k, h, o, f, hp => by
    unfold chkS at h
    split at h
    · obtain ⟨h, h10⟩ := bk h
      obtain ⟨h10, h11⟩ := bk h10
      obtain ⟨h, h9⟩ := bk h
      obtain ⟨h, h8⟩ := bk h
      obtain ⟨h, h7⟩ := bk h
      obtain ⟨h, h6⟩ := bk h
      obtain ⟨h, h5⟩ := bk h
      obtain ⟨h, h4⟩ := bk h
      obtain ⟨h, h3⟩ := bk h
      obtain ⟨h1, h2⟩ := bk h
      obtain ⟨hcm, h1⟩ := bk h1
      obtain ⟨a1, a2⟩ := f.loc h1
      obtain ⟨b1, b2⟩ := f.loc h2
      exact ls_setPO (o.calm hcm) (f.N ▸ f.nd) a1 b1 (of_decide_eq_true h3) a2 b2 h6 h7 (swp_yes f a2 b2 (of_decide_eq_true h4) h5 h6 h7 (nb h8) (nb h9)) rfl (chkE_ok a h10 o f).1 (lf_lst (chkEs_ok _ h11 o f).1)
    · cases h
  | .setP3 i j l a b c, W, C, x, T, Γ, X, RR, k, h, o, f, hp => by
    unfold chkS at h
    split at h
    · obtain ⟨h, hE⟩ := bk h
      obtain ⟨e1, hE⟩ := bk hE
      obtain ⟨e2, e3⟩ := bk hE
      obtain ⟨h, g2⟩ := bk h
      obtain ⟨h, g1⟩ := bk h
      obtain ⟨h, s3⟩ := bk h
      obtain ⟨h, s2⟩ := bk h
      obtain ⟨h, s1⟩ := bk h
      obtain ⟨h, l2⟩ := bk h
      obtain ⟨h, l1⟩ := bk h
      obtain ⟨h, hn⟩ := bk h
      obtain ⟨hn, n3⟩ := bk hn
      obtain ⟨n1, n2⟩ := bk hn
      obtain ⟨h, hi⟩ := bk h
      obtain ⟨hi, i3⟩ := bk hi
      obtain ⟨i1, i2⟩ := bk hi
      obtain ⟨h, v3⟩ := bk h
      obtain ⟨h, v2⟩ := bk h
      obtain ⟨hcm, v1⟩ := bk h
      obtain ⟨a1, a2⟩ := f.loc v1
      obtain ⟨b1, b2⟩ := f.loc v2
      obtain ⟨c1, c2⟩ := f.loc v3
      exact ls_setP3 (o.calm hcm) (f.N ▸ f.nd) a1 b1 c1 (of_decide_eq_true i1) (of_decide_eq_true i2) (of_decide_eq_true i3) a2 b2 c2 s1 s2 s3 (swp_yes3 f a2 b2 c2 (of_decide_eq_true n1) (of_decide_eq_true n2) (of_decide_eq_true n3) l1 l2 s1 s2 s3 (nb g1) (nb g2)) rfl (chkE_ok a e1 o f).1 (chkE_ok b e2 o f).1 (chkE_ok c e3 o f).1
    · cases h
  | .setFld c a n e, W, C, x, T, Γ, X, RR, k, h, o, f, hp => by
    unfold chkS at h
    split at h
    · rename_i y m p v pos
      obtain ⟨h, h4⟩ := bk h
      obtain ⟨h4, h5⟩ := bk h4
      obtain ⟨h1, h2⟩ := bk h
      exact ls_setFld o.hK (o.tbl ▸ of_decide_eq_true h1) (o.flds _ (of_decide_eq_true h2)) (by cases v <;> rfl) (chkE_ok a h4 o f).1 (chkE_ok e h5 o f).1
    · cases h
  | .setIdx a b e, W, C, x, T, Γ, X, RR, k, h, o, f, hp => by
    unfold chkS at h
    split at h
    · obtain ⟨h0, h1⟩ := bk h
      obtain ⟨h1, h2⟩ := bk h1
      obtain ⟨h2, h3⟩ := bk h2
      exact ls_setIdx (le_setIdx0 h0) sole_sub swp_sub (chkE_ok a h1 o f).1 (chkE_ok b h2 o f).1 (chkE_ok e h3 o f).1
    · cases h
  | .expr e, W, C, x, T, Γ, X, RR, k, h, o, f, hp => by
    unfold chkS at h
    split at h
    · obtain ⟨h1, h2⟩ := bk h
      exact ls_expr (by rename_i v _; cases v <;> first | rfl | cases h1) (chkE_ok e h2 o f).1
    · cases h
  | .app i e, W, C, x, T, Γ, X, RR, k, h, o, f, hp => by
    unfold chkS at h
    split at h
    · obtain ⟨h, h5⟩ := bk h
      obtain ⟨h, h4⟩ := bk h
      obtain ⟨h, h3⟩ := bk h
      obtain ⟨h1, h2⟩ := bk h
      have e1 := of_decide_eq_true h1
      subst e1
      obtain ⟨a1, a2, a3, a4⟩ := f.see h2
      exact ls_app o.hK a1 a2 a3 a4 h3 h4 rfl (chkE_ok e h5 o f).1
    · cases h
  | .ext i e, W, C, x, T, Γ, X, RR, k, h, o, f, hp => by
    unfold chkS at h
    split at h
    · obtain ⟨h, h5⟩ := bk h
      obtain ⟨h, h4⟩ := bk h
      obtain ⟨h, h3⟩ := bk h
      obtain ⟨h1, h2⟩ := bk h
      have e1 := of_decide_eq_true h1
      subst e1
      obtain ⟨a1, a2, a3, a4⟩ := f.see h2
      exact ls_ext o.hK a1 a2 a3 a4 h3 h4 rfl (chkE_ok e h5 o f).1
    · cases h
  | .appR i e, W, C, x, T, Γ, X, RR, k, h, o, f, hp => by
    unfold chkS at h
    split at h
    · obtain ⟨h, h5⟩ := bk h
      obtain ⟨h, h4⟩ := bk h
      obtain ⟨h, h3⟩ := bk h
      obtain ⟨h1, h2⟩ := bk h
      have e1 := of_decide_eq_true h1
      subst e1
      obtain ⟨a1, a2, a3, a4⟩ := f.see h2
      exact ls_appR o.hK a1 a2 a3 a4 h3 h4 rfl (chkE_ok e h5 o f).1
    · cases h
  | .appE a e, W, C, x, T, Γ, X, RR, k, h, o, f, hp => by
    unfold chkS at h
    split at h
    · obtain ⟨h, h5⟩ := bk h
      obtain ⟨h, h4⟩ := bk h
      obtain ⟨h, h3⟩ := bk h
      obtain ⟨h1, h2⟩ := bk h
      obtain ⟨h5, h6⟩ := bk h5
      have e1 := of_decide_eq_true h1
      subst e1
      exact ls_appE o.hK h3 h4 h2 (chkE_ok a h5 o f).1 (chkE_ok e h6 o f).1
    · cases h
  | .extR i e, W, C, x, T, Γ, X, RR, k, h, o, f, hp => by
    unfold chkS at h
    split at h
    · obtain ⟨h, h5⟩ := bk h
      obtain ⟨h, h4⟩ := bk h
      obtain ⟨h, h3⟩ := bk h
      obtain ⟨h1, h2⟩ := bk h
      have e1 := of_decide_eq_true h1
      subst e1
      obtain ⟨a1, a2, a3, a4⟩ := f.see h2
      exact ls_extR o.hK a1 a2 a3 a4 h3 h4 rfl (chkE_ok e h5 o f).1
    · cases h
  | .ret e, W, C, x, T, Γ, X, RR, k, h, o, f, hp => by
    unfold chkS at h
    split at h
    · exact ls_ret (chkE_ok e h o f).1
    · cases h
  | .retN, W, C, x, T, Γ, X, RR, k, h, o, f, hp => by
    unfold chkS at h
    split at h
    · exact ls_retN
    · cases h
  | .ite c a b, W, C, x, T, Γ, X, RR, k, h, o, f, hp => by
    unfold chkS at h
    split at h
    · obtain ⟨h1, h2⟩ := bk h
      obtain ⟨h2, h3⟩ := bk h2
      obtain ⟨h3, h4⟩ := bk h3
      exact ls_ite ((chkE_ok c h2 o f).2 h1) (chkSs_ok a h3 o f hp) (chkSs_ok b h4 o f hp)
    · cases h
  | .whl c b, W, C, x, T, Γ, X, RR, k, h, o, f, hp => by
    unfold chkS at h
    split at h
    · obtain ⟨h1, h2⟩ := bk h
      obtain ⟨hcm, h1⟩ := bk h1
      obtain ⟨h2, h3⟩ := bk h2
      exact ls_whl (hp.hp hcm) ((chkE_ok c h2 o f).2 h1) (chkSs_ok b h3 o f hp)
    · cases h
  | .for_ t it b, W, C, x, T, Γ, X, RR, k, h, o, f, hp => by
    unfold chkS at h
    split at h
    · obtain ⟨h1, h2⟩ := bk h
      obtain ⟨hcm, h1⟩ := bk h1
      obtain ⟨h2, h3⟩ := bk h2
      obtain ⟨h3, h4⟩ := bk h3
      exact ls_for (hp.hp hcm) (o.calm hcm) (chkI_ok it h2 o f) (chkT_ok t h3 o.hK (o.calm hcm) f) (chkSs_ok b h4 o f hp) (fold_ok h1)
    · cases h
  | .try_ b hs, W, C, x, T, Γ, X, RR, k, h, o, f, hp => by
    unfold chkS at h
    split at h
    · obtain ⟨h1, h2⟩ := bk h
      obtain ⟨h2, h3⟩ := bk h2
      obtain ⟨s1, s2⟩ := hp.stk h1
      exact ls_try o.hK s1 s2 (f.N ▸ f.nd) o.tk o.exm (fun pn xe R2 tk pas sF eG => chkSs_ok b h2 (o.tr pn xe R2 tk sF eG) f.tr ⟨fun _ => pas, hp.stk⟩) (chkH_ok hs h3 o f)
    · cases h
  | .raise c e, W, C, x, T, Γ, X, RR, k, h, o, f, hp => by
    unfold chkS at h
    split at h
    · obtain ⟨h, h5⟩ := bk h
      obtain ⟨h, h4⟩ := bk h
      obtain ⟨h, h3⟩ := bk h
      obtain ⟨h1, h2⟩ := bk h
      obtain ⟨g1, g2⟩ := f.gl h3
      obtain ⟨j, jk, q1, q2⟩ := o.rss _ (of_decide_eq_true h2)
      exact ls_raise o.hK (o.calm h1) q1 ((o.room h1).mono jk) g1 q2 o.tk h4 g2 (chkE_ok e h5 o f).1
    · cases h
  | .never, W, C, x, T, Γ, X, RR, k, h, o, f, hp => by
    unfold chkS at h
    cases h
  | .pass, W, C, x, T, Γ, X, RR, k, h, o, f, hp => by
    unfold chkS at h
    split at h
    · exact ls_pass
    · cases h
  | .cont, W, C, x, T, Γ, X, RR, k, h, o, f, hp => by
    unfold chkS at h
    split at h
    · exact ls_cont
    · cases h
  | .frz _, W, C, x, T, Γ, X, RR, k, h, o, f, hp => by
    unfold chkS at h
    cases h
  | .frzR _, W, C, x, T, Γ, X, RR, k, h, o, f, hp => by
    unfold chkS at h
    cases h
theorem chkSs_ok : ∀ (s : Ss) {W : Wd} {C : CK} {x : List Stmt} {T : Tb} {Γ : Gam} {X : Cx} {RR : RRt} {k : Nat}, chkSs W C s x = true → Ok W T Γ X RR k → Fits C X → Run W X → PSs X x (LS T X RR (wpSs Γ s))
  | .nil, W, C, x, T, Γ, X, RR, k, h, o, f, hp => by
    unfold chkSs at h
    cases x with
    | nil => exact lss_nil
    | cons _ _ => cases h
  | .cons s r, W, C, x, T, Γ, X, RR, k, h, o, f, hp => by
    unfold chkSs at h
    split at h
    · exact lss_frz (chkSs_ok r h o f hp)
    · exact lss_frzR (chkSs_ok r h o f hp)
    · exact lss_never
    · split at h
      · obtain ⟨h1, h2⟩ := bk h
        exact lss_cons (chkS_ok s h1 o f hp) (chkSs_ok r h2 o f hp)
      · cases h
theorem chkH_ok : ∀ (hs : Hs) {W : Wd} {C : CK} {x : List ExceptHandler} {T : Tb} {Γ : Gam} {X : Cx} {RR : RRt} {k : Nat}, chkH W C hs x = true → Ok W T Γ X RR k → Fits C X → HdsN X x (hdsL T Γ hs)
  | .nil, W, C, x, T, Γ, X, RR, k, h, o, f => by
    unfold chkH at h
    cases x with
    | nil => exact .nil
    | cons _ _ => cases h
  | .cons c n b r, W, C, x, T, Γ, X, RR, k, h, o, f => by
    unfold chkH at h
    split at h
    · rename_i y p1 nm st rest p2 ks
      obtain ⟨h, h4⟩ := bk h
      obtain ⟨h4, h5⟩ := bk h4
      obtain ⟨h, h3⟩ := bk h
      obtain ⟨h1, h2⟩ := bk h
      obtain ⟨g1, g2⟩ := f.gl h2
      have nmc : Names X y (.ref (T.cA c)) := ⟨g1, g2, .inl (o.hcl _ (of_decide_eq_true h1))⟩
      have su : ∀ (e : Addr) (oe : Obj) (cls : Value) (d : Option Addr) (pn : List (Addr × Obj)), Zc cls d oe → (∃ vs, oe.data = .fields vs) → PSs (X.suite e ((e, oe) :: pn)) (st :: rest) (HSt T Γ n b e cls d) :=
        fun e oe cls d pn z fv => suite_ok z fv fun F0 G0 => chkSs_ok b h4 (o.hot e ((e, oe) :: pn) F0 G0) f.suite Run.hot
      have tl := chkH_ok r h5 o f
      cases n with
      | none =>
        cases nm with
        | none => exact .only nmc su tl
        | some _ => cases h3
      | some i =>
        cases nm with
        | none => cases h3
        | some z =>
          obtain ⟨a1, a2⟩ := f.loc h3
          exact .as_ nmc a1 a2 su tl
    · cases h
end
/-- a def's body, checked, keeps what its reading says -/
theorem start_at : ∀ {vs : List D} {n : Nat} {i : Nat}, (start n vs).at i = match vs[i]? with | some d => .val d | none => .un := by
  intro vs n i
  unfold start
  induction vs generalizing i n with
  | nil =>
    show Env.at (List.replicate (n - 0) Slot.un) i = .un
    generalize n - 0 = m
    induction m generalizing i with
    | zero => rfl
    | succ m ih =>
      cases i with
      | zero => rfl
      | succ i => exact ih
  | cons d ds ih =>
    cases i with
    | zero => rfl
    | succ i =>
      have e : n - (d :: ds).length = (n - 1) - ds.length := by rw [List.length_cons]; omega
      show Env.at (ds.map .val ++ List.replicate (n - (d :: ds).length) .un) i = _
      rw [e]
      exact ih
theorem sr_start {T : Tb} {F G : Hp} {h : AH} {H : Hp} {N : List Str} {ds : List D} {vs : List V} (sh : SH T F G h H) (r : Reps T F ds vs) (hl : ds.length ≤ N.length) : SR T ⟨[], F, G⟩ F G (FF.start N.length ds) h (L2.start N vs) H := by
  have e := r.length
  refine ⟨⟨sh, ?_, fun i => ?_, fun i j l m a _ e1 _ _ => ?_⟩, Same.refl _, rfl⟩
  · unfold FF.start L2.start
    rw [List.length_append, List.length_map, List.length_replicate, List.length_append, List.length_map, List.length_replicate, e]
  · rw [start_at]
    cases q : ds[i]? with
    | none => trivial
    | some d =>
      obtain ⟨v, hv, rv⟩ := r.get q
      refine ⟨v, ?_, rv⟩
      unfold L2.start
      obtain ⟨hi, _⟩ := List.getElem?_eq_some_iff.mp hv
      rw [List.getElem?_append_left (by rw [List.length_map]; exact hi), List.getElem?_map, hv]
      rfl
  · rw [start_at] at e1
    split at e1 <;> cases e1
def ckOf (N : List Str) (sc : Scope) : CK := ⟨N, sc.names, fun _ => true⟩
theorem OkG.mono {W : Wd} {T : Tb} {Γ : Gam} {P : Program} {w : World} {mg : Str → Option Value} {base : Heap} {j k : Nat} (o : OkG W T Γ P w mg base j) (h : j ≤ k) : OkG W T Γ P w mg base k := by
  refine ⟨o.fr, fun p hp => ⟨(o.fns p hp).1.mono h, (o.fns p hp).2⟩, fun p hp => ⟨?_, (o.fnK p hp).2⟩, fun p hp => ⟨?_, (o.fnD p hp).2⟩, o.cons, o.tbl, fun z => ⟨fun n hn ex => ((o.cv z).1 n hn ex).mono h, (o.cv z).2⟩, fun p hp => ?_, fun p hp => ⟨?_, (o.mets p hp).2⟩, o.flds, o.iso, fun p hp => ?_, o.hcl, o.exm, o.xfs, o.dcs, o.isx, o.isA, fun p hp => ⟨(o.hfs p hp).1.mono (Nat.succ_le_succ h), (o.hfs p hp).2⟩⟩
  · obtain ⟨⟨fd, ps, F, b⟩, kp⟩ := (o.fnK p hp).1
    exact ⟨⟨fd, ps, F.mono h, b⟩, kp⟩
  · obtain ⟨⟨fd, ps, dvs, us, F, b, r, d⟩, kp⟩ := (o.fnD p hp).1
    exact ⟨⟨fd, ps, dvs, us, F.mono h, b, r, d⟩, kp⟩
  · obtain ⟨i, hi, q⟩ := o.mks p hp
    exact ⟨i, Nat.le_trans hi h, q⟩
  · obtain ⟨⟨fd, ps, F, b⟩, me⟩ := (o.mets p hp).1
    exact ⟨⟨fd, ps, F.mono h, b⟩, me⟩
  · obtain ⟨i, hi, q⟩ := o.rss p hp
    exact ⟨i, Nat.le_trans hi h, q⟩
/-- how a lambda within a def is called -/
def lamq (qual : Str) : Str := qual ++ ".<locals>." ++ "<lambda>"
/-- a def in which lambdas stand: its code object, the table -/
structure LamD (T : Tb) (mg : Str → Option Value) (base : Heap) (qual : Str) (fd : FuncData) : Prop where
  ex : ∃ c P, fd.code = .ref c ∧ LamX.TabB base mg c P ∧ (P, lamq qual) ∈ T.lam ∧ ∀ p ∈ T.lam, p.1 = P → p.2 = lamq qual
theorem good_of0 {W : Wd} {T : Tb} {Γ : Gam} {P : Program} {w : World} {mg : Str → Option Value} {base : Heap} {k k2 n : Nat} {x qual : Str} {params : Arguments} {body : List Stmt} {scope : Scope} {dvs : List V} {kws : List (Str × V)} {fd : FuncData} {N ps : List Str} {f : Fd}
    (F : FunD T.K x qual params body scope dvs kws (T.fA n) fd) (S : FnScope N ps scope) (og : OkG W T Γ P w mg base k) (hnp : f.np = ps.length) (hns : f.ns = N.length) (hc : chkSs W (ckOf N scope) f.body body = true) (hb : BodyOkD Γ f (Γ.fn n))
    (hk : k ≤ k2) (ha : (W.act || W.acts) = false) (hl : W.lm = true → k + 2 ≤ k2 ∧ LamD T mg base qual fd) :
    FnOk P w T.K mg base (L2.CX P w) (k2 + 1) (T.fA n) fd ps (prom T (Γ.fn n)) := by
  obtain ⟨oc, od, dV, kV, doc, pm, an, cdv, ct, osl, efd, lk, hcd, _, _⟩ := F.ex
  subst efd
  refine fn_of lk hcd S (fun vs H Q E h => ?_) fun A outer s H vs Q E hr h => ?_
  · obtain ⟨F0, G0, h0, ds, Qd, Rd, r, sh, sp, _⟩ := h
    rw [← r.length, ← hnp]
    exact (hb ds h0 Qd Rd sp).1
  · obtain ⟨F0, G0, h0, ds, Qd, Rd, r, sh, sp, kq, kr⟩ := h
    obtain ⟨l, wp⟩ := hb ds h0 Qd Rd sp
    have hpl : ps.length ≤ N.length := by
      have := congrArg List.length S.pre
      rw [List.length_take] at this
      omega
    let X := cxOf (L2.CX P w) P w T.K mg base N qual scope (T.fA n) cdv A outer s H E
    have tk : Takes X (WR T X ⟨F0, G0, fun x _ h => ∃ h', AH.Sub h' h ∧ Rd x h'⟩) := by
      refine Takes.imp (takes_of (X := X) (E := E) rfl rfl rfl rfl) fun cls d τ H' q => ?_
      obtain ⟨F1, G1, σ1, h1, e, dd, v, rfl, rfl, sr, e1, rv, h2, sub, q⟩ := q
      have eG : G1 = G0 := sr.lG
      subst eG
      exact kr e h2 F1 H' dd v sr.lF (sr.sh.less sub) e1 rv q
    obtain ⟨ha1, ha2⟩ := Bool.or_eq_false_iff.mp ha
    have o2 := og.mono hk
    have ok : Ok W T Γ X ⟨F0, G0, fun x _ h => ∃ h', AH.Sub h' h ∧ Rd x h'⟩ k2 := ⟨rfl, o2.fr, hr.units, fun _ => hr, tk, fun _ => rfl, o2.fns, o2.fnK, o2.fnD, o2.cons, o2.tbl, o2.cv, o2.mks, o2.mets, o2.flds, o2.iso, o2.rss, o2.hcl, o2.exm, o2.xfs, o2.dcs, o2.isx, o2.isA, fun z => (by
      obtain ⟨q1, q2⟩ := hl z
      obtain ⟨c, P', e1, e2, e3, e4⟩ := q2.ex
      exact ⟨k, c, P', q1, og.blk, og.hfs, e2, e1, e3, e4⟩), fun z => (by rw [z] at ha1; cases ha1), fun z => (by rw [z] at ha2; cases ha2)⟩
    have fits : Fits (ckOf N scope) X := ⟨rfl, S.nd, rfl, S.kind, fun _ _ => rfl⟩
    refine ⟨_, chkSs_ok f.body hc ok fits ⟨fun _ => passes_of (X := X) rfl, fun _ => ⟨rfl, rfl⟩⟩, ?_⟩
    refine ⟨F0, G0, FF.start N.length ds, h0, (fun _ h => ∃ h', AH.Sub h' h ∧ Qd .non h'), (fun d h => ∃ h', AH.Sub h' h ∧ Qd d h'), (fun _ _ => False), sr_start sh r (by rw [l, hnp]; exact hpl), ?_, ?_, ?_, ?_⟩
    · rw [hns] at wp; exact wp
    · rintro σ' h' τ' F' H' s' sr' ⟨h2, sub, q⟩
      exact kq .non h2 _ F' H' s' (sr'.sh.less sub) .non q
    · rintro d h' v σ' τ' F' H' s' sr' rv ⟨h2, sub, q⟩
      exact kq d h2 v F' H' s' (sr'.sh.less sub) rv q
    · intro σ' h' τ' F' H' s' sr' q
      exact q.elim
theorem good_of {W : Wd} {T : Tb} {Γ : Gam} {P : Program} {w : World} {mg : Str → Option Value} {base : Heap} {k n : Nat} {x qual : Str} {params : Arguments} {body : List Stmt} {scope : Scope} {dvs : List V} {kws : List (Str × V)} {fd : FuncData} {N ps : List Str} {f : Fd}
    (F : FunD T.K x qual params body scope dvs kws (T.fA n) fd) (S : FnScope N ps scope) (og : OkG W T Γ P w mg base k) (hnp : f.np = ps.length) (hns : f.ns = N.length) (hc : chkSs W (ckOf N scope) f.body body = true) (hb : BodyOkD Γ f (Γ.fn n)) (hpw : (W.lm || W.act || W.acts) = false := by rfl) :
    FnOk P w T.K mg base (L2.CX P w) (k + 1) (T.fA n) fd ps (prom T (Γ.fn n)) := by
  rw [Bool.or_assoc] at hpw
  obtain ⟨h1, h2⟩ := Bool.or_eq_false_iff.mp hpw
  exact good_of0 F S og hnp hns hc hb (Nat.le_refl k) h2 fun z => by rw [z] at h1; cases h1
/-- .. one in which lambdas stand -/
theorem good_ofL {W : Wd} {T : Tb} {Γ : Gam} {P : Program} {w : World} {mg : Str → Option Value} {base : Heap} {k n : Nat} {x qual : Str} {params : Arguments} {body : List Stmt} {scope : Scope} {dvs : List V} {kws : List (Str × V)} {fd : FuncData} {N ps : List Str} {f : Fd}
    (F : FunD T.K x qual params body scope dvs kws (T.fA n) fd) (S : FnScope N ps scope) (og : OkG W T Γ P w mg base k) (hnp : f.np = ps.length) (hns : f.ns = N.length) (hc : chkSs W (ckOf N scope) f.body body = true) (hb : BodyOkD Γ f (Γ.fn n)) (hl : LamD T mg base qual fd) (ha : (W.act || W.acts) = false := by rfl) :
    FnOk P w T.K mg base (L2.CX P w) (k + 3) (T.fA n) fd ps (prom T (Γ.fn n)) :=
  good_of0 F S og hnp hns hc hb (Nat.le_add_right k 2) ha fun _ => ⟨Nat.le_refl _, hl⟩
/-- the code object's place is told in what never changes -/
theorem code_in {T : Tb} {F G : Hp} {h : AH} {H : Hp} {c : Addr} {q : Str} (sh : SH T F G h H) (hc : H c = some (LamX.CodeO c q)) : ∃ F1, Same F F1 ∧ SH T F1 G h H ∧ (F1 c = some (LamX.CodeO c q) ∨ G c = some (LamX.CodeO c q)) := by
  cases e : G c with
  | some o =>
    refine ⟨F, Same.refl _, sh, .inr ?_⟩
    have := sh.sG c o e
    rw [hc] at this
    rw [← this]
  | none =>
    have fk : Same F (upd F c (LamX.CodeO c q)) := fun b o z => by
      by_cases hb : b = c
      · subst hb
        have := sh.sF b o z
        rw [hc] at this
        rw [upd_same, ← this]
      · rw [upd_ne hb]; exact z
    refine ⟨upd F c (LamX.CodeO c q), fk, ⟨fun b o z => ?_, sh.sG, fun b => ?_, fun a d z => ?_, sh.tb.go (fun _ _ z _ _ => z) (fun b ps z => upd_tbl (fun ps => LamX.codeO_ne ps) z) fun _ _ z => z⟩, .inl upd_same⟩
    · by_cases hb : b = c
      · subst hb; rw [upd_same] at z; rw [hc, z]
      · rw [upd_ne hb] at z; exact sh.sF b o z
    · by_cases hb : b = c
      · subst hb; exact .inr e
      · rw [upd_ne hb]; exact sh.dis b
    · obtain ⟨e1, e2, e3⟩ := sh.cell a d z
      have ne : a ≠ c := fun z => by
        subst z
        obtain ⟨o, ho, w⟩ := e3.which
        rw [hc] at ho
        cases ho
        rcases w with ⟨_, z⟩ | ⟨_, _, _, z⟩ <;> cases z
      exact ⟨by rw [upd_ne ne]; exact e1, e2, e3.mono fk rfl⟩
theorem givesL_of {W : Wd} {T : Tb} {Γ : Gam} {P : Program} {w : World} {mg : Str → Option Value} {base : Heap} {k : Nat} {x a : Str} {bg : List Stmt} {sg : Scope} {g : Addr} {cdg : Value} {N : List Str} {f : Fd} {sp : HSpec}
    (S : FnScope N [a] sg) (hN : N[0]? = some a) (og : OkG W T Γ P w mg base k) (hns : f.ns = N.length) (hc : chkSs W (ckOf N sg) f.body bg = true) (hb : BodyOkH Γ f sp) (hpw : (W.lm || W.act) = false) : GivesL P w T mg base k sp N x sg g cdg bg a := by
  intro A outer fa c' q s H E tl Q hr act hco pr
  obtain ⟨F, G, h, actd, Qd, Rd, sh, spd, kq, kr, ka⟩ := pr
  obtain ⟨F1, s1, sh1, hc1⟩ := code_in sh hco
  obtain ⟨l, wp⟩ := hb fa actd h Qd Rd spd
  obtain ⟨h1, h2⟩ := Bool.or_eq_false_iff.mp hpw
  let X := cxOf (L2.CX P w) P w T.K mg base N x sg g cdg A outer s H E
  let RR : RRt := ⟨F1, G, fun x _ h => Rd x h⟩
  have tk : Takes X (WR T X RR) := by
    refine Takes.imp (takes_of (X := X) (E := E) rfl rfl rfl rfl) fun cls d τ H' q => ?_
    obtain ⟨F2, G2, σ2, h2, e, dd, v, rfl, rfl, sr, e1, rv, q⟩ := q
    have eG : G2 = G := sr.lG
    subst eG
    exact kr e h2 F2 H' dd v (s1.trans sr.lF) sr.sh e1 rv q
  have acts : ∀ pn xe (R2 : RRt), Takes (X.tr pn xe) (WR T (X.tr pn xe) R2) → Same F1 R2.F0 → R2.G0 = G → ActOk T (Γ.given fa actd) (X.tr pn xe) R2 := by
    intro pn xe R2 tk2 sF eG y p1 p2 hy
    have ey : a = y := Option.some.inj (hN.symm.trans hy)
    subst ey
    refine PE.imp (act (WR T (X.tr pn xe) R2) pn xe p1 p2 tk2) fun τ HZ Q' h3 => ?_
    obtain ⟨F2, G2, σ, h2, Qd2, sr, w2, k2⟩ := h3
    have w3 : (match σ.at 0 with | .val (.ref a) => a = fa ∧ actd h2 Qd2 (fun x h' => R2.R x σ h') | _ => False) := w2
    clear w2
    have eG2 : G2 = R2.G0 := sr.lG
    have code : HZ c' = some (LamX.CodeO c' q) := by
      rcases hc1 with z | z
      · exact sr.sh.sF _ _ (sr.lF _ _ (sF _ _ z))
      · exact sr.sh.sG _ _ (by rw [eG2, eG]; exact z)
    cases e0 : σ.at 0 with
    | val d =>
      rw [e0] at w3
      obtain ⟨v, e1, r⟩ := sr.val e0
      cases r with
      | ref =>
        obtain ⟨rfl, w4⟩ := w3
        obtain ⟨G', sh', back⟩ := sr.call
        refine ⟨e1, code, ka F2 G' h2 HZ Qd2 _ _ _ (s1.trans (sF.trans sr.lF)) sh' w4 (fun d h' v F' H' s sh r q => k2 d h' v F' H' s (back F' h' H' s sh) r q) fun x h' F' H' dd v s sh e rv q => ?_⟩
        exact ⟨F', G2, σ, h', x, dd, v, rfl, rfl, back F' h' H' s sh, e, rv, q⟩
      | _ => exact False.elim w3
    | _ => rw [e0] at w3; exact False.elim w3
  have ok : Ok W T (Γ.given fa actd) X RR k := ⟨rfl, og.fr, hr.units, fun _ => hr, tk, fun _ => rfl, og.fns, og.fnK, og.fnD, og.cons, og.tbl, og.cv, og.mks, og.mets, og.flds, og.iso, og.rss, og.hcl, og.exm, og.xfs, og.dcs, og.isx, og.isA, fun z => (by rw [z] at h1; cases h1), fun z => (by rw [z] at h2; cases h2), fun _ => acts⟩
  have fits : Fits (ckOf N sg) X := ⟨rfl, S.nd, rfl, S.kind, fun _ _ => rfl⟩
  refine ⟨_, chkSs_ok f.body hc ok fits ⟨fun _ => passes_of (X := X) rfl, fun _ => ⟨rfl, rfl⟩⟩, ?_⟩
  have h1l : 1 ≤ N.length := by
    cases N with
    | nil => cases hN
    | cons _ _ => exact Nat.succ_le_succ (Nat.zero_le _)
  refine ⟨F1, G, FF.start N.length [.ref fa], h, (fun _ h => Qd .non h), Qd, (fun _ _ => False), sr_start (vs := [.ref fa]) sh1 (.cons .ref .nil) h1l, ?_, ?_, ?_, ?_⟩
  · rw [hns] at wp; exact wp
  · rintro σ' h' τ' F' H' s' sr' q
    exact kq .non h' _ F' H' (s1.trans s') sr'.sh .non q
  · rintro d h' v σ' τ' F' H' s' sr' rv q
    exact kq d h' v F' H' (s1.trans s') sr'.sh rv q
  · intro σ' h' τ' F' H' s' sr' q
    exact q.elim
end FF
namespace FF
open PySem PySem.Spec PyProof.Rows L2
/-! ### a law's defs, one above another -/
/-- the specifications by number -/
def gamOf (tab : List (Nat × Spec)) (sub : List ((Nat × Nat) × Bool) := []) (hf : List (Nat × HSpec) := []) (cvs : List Nat := []) : Gam := { cvs := fun n => n ∈ cvs, fn := fun n ds h Q R => match tab.lookup n with | some sp => sp ds h Q R | none => False, clo := fun _ _ _ _ _ _ => False, sub := fun a b => sub.lookup (a, b), hf := fun n act h Q R => match hf.lookup n with | some sp => sp act h Q R | none => False }
theorem gam_hf {tab : List (Nat × Spec)} {sub : List ((Nat × Nat) × Bool)} {hf : List (Nat × HSpec)} {cvs : List Nat} {n : Nat} {sp : HSpec} (h : hf.lookup n = some sp) : (gamOf tab sub hf cvs).hf n = sp := by
  unfold gamOf
  funext act h0 Q R
  simp only [h]
theorem gam_at {tab : List (Nat × Spec)} {sub : List ((Nat × Nat) × Bool)} {hf : List (Nat × HSpec)} {cvs : List Nat} {n : Nat} {sp : Spec} (h : tab.lookup n = some sp) : (gamOf tab sub hf cvs).fn n = sp := by
  unfold gamOf
  funext ds h0 Q R
  simp only [h]
theorem mem_lk2 {β : Type} {n : Nat × Nat} {b : β} : ∀ {l : List ((Nat × Nat) × β)}, l.lookup n = some b → (n, b) ∈ l
  | [], e => by cases e
  | (m, c) :: r, e => by
    by_cases h : n = m
    · subst h
      rw [List.lookup_cons, beq_self_eq_true] at e
      cases e
      exact List.mem_cons_self
    · have : (n == m) = false := by simpa using h
      rw [List.lookup_cons, this] at e
      exact List.mem_cons_of_mem _ (mem_lk2 e)
/-- the machine's names, by the defs' places -/
def tbOf (K : PySem.W.Frag) (ats : List (Nat × Str × Option Str)) (at0 : Str × Option Str) (cls : Nat → Str) (tbl : List Str) (nd : tbl.Nodup) (xf : Nat → Str) (lam : List (Addr × Str) := []) : Tb :=
  ⟨K, fun c => He.ga K (cls c), fun n => He.fAd K ((ats.lookup n).getD at0), tbl, nd, xf, lam⟩
section
variable {P : Program} {w : World} {T : Tb} {Γ : Gam} {mg : Str → Option Value} {base : Heap}
def Lv (P : Program) (w : World) (T : Tb) (Γ : Gam) (mg : Str → Option Value) (base : Heap) (k : Nat) (L : List (Nat × Str)) : Prop := ∀ p ∈ L, Good P w T mg base k p.1 (Γ.fn p.1) ∧ mg p.2 = some (.ref (T.fA p.1))
theorem Lv.nil {k : Nat} : Lv P w T Γ mg base k [] := fun _ h => by cases h
theorem Lv.cons {k n : Nat} {x : Str} {L : List (Nat × Str)} (l : Lv P w T Γ mg base k L) (g : Good P w T mg base (k + 1) n (Γ.fn n)) (e : mg x = some (.ref (T.fA n))) : Lv P w T Γ mg base (k + 1) ((n, x) :: L) := fun p h => by
  rcases List.mem_cons.mp h with q | q
  · subst q; exact ⟨g, e⟩
  · exact ⟨(l p q).1.mono (Nat.le_succ k), (l p q).2⟩
theorem Lv.up {k : Nat} {L : List (Nat × Str)} (l : Lv P w T Γ mg base k L) : Lv P w T Γ mg base (k + 1) L := fun p h => ⟨(l p h).1.mono (Nat.le_succ k), (l p h).2⟩
theorem GoodK.mono {j k n m : Nat} {ks : List Str} {perm : List Nat} {sp : Spec} (g : GoodK P w T mg base j n m ks perm sp) (h : j ≤ k) : GoodK P w T mg base k n m ks perm sp := by
  obtain ⟨⟨fd, ps, F, b⟩, kp⟩ := g
  exact ⟨⟨fd, ps, F.mono h, b⟩, kp⟩
/-- a def of no defaults -/
theorem good_mk {W : Wd} {k n : Nat} {x qual : Str} {params : Arguments} {body : List Stmt} {scope : Scope} {kws : List (Str × V)} {fd : FuncData} {N ps : List Str} {f : Fd}
    (F : FunD T.K x qual params body scope [] kws (T.fA n) fd) (S : FnScope N ps scope) (og : OkG W T Γ P w mg base k) (hnp : f.np = ps.length) (hns : f.ns = N.length) (hc : chkSs W (ckOf N scope) f.body body = true) (hb : BodyOkD Γ f (Γ.fn n))
    (bd : ∀ (kV doc pm : Value) (an : Option Addr) (cdv ct : Value) (us : List Value), us.length = ps.length → bindArgs (PySem.W.fnOf x qual params body scope .none kV doc pm an cdv ct) ⟨us, []⟩ = pure (ps.zip us)) (hpw : (W.lm || W.act || W.acts) = false := by rfl) : Good P w T mg base (k + 1) n (Γ.fn n) :=
  ⟨⟨fd, ps, good_of F S og hnp hns hc hb hpw, F.bindsN bd⟩, F.kp⟩
theorem GoodD.mono {j k n : Nat} {dv : List D} {sp : Spec} (g : GoodD P w T mg base j n dv sp) (h : j ≤ k) : GoodD P w T mg base k n dv sp := by
  obtain ⟨⟨fd, ps, dvs, us, F, b, r, d⟩, kp⟩ := g
  exact ⟨⟨fd, ps, dvs, us, F.mono h, b, r, d⟩, kp⟩
/-- the statements of a class -/
def clsBody (s : Stmt) : List Stmt := match s with
  | .ClassDef _ _ _ b _ _ _ _ _ _ _ => b
  | _ => []
theorem GoodM.mono {j k n c : Nat} {m : Str} {sp : Spec} (g : GoodM P w T mg base j n c m sp) (h : j ≤ k) : GoodM P w T mg base k n c m sp := by
  obtain ⟨⟨fd, ps, F, b⟩, me⟩ := g
  exact ⟨⟨fd, ps, F.mono h, b⟩, me⟩
theorem GoodI.mono {j k n c : Nat} {sp : Spec} (g : GoodI P w T mg base j n c sp) (h : j ≤ k) : GoodI P w T mg base k n c sp := by
  obtain ⟨⟨fd, ps, F, b⟩, mk, cl⟩ := g
  exact ⟨⟨fd, ps, F.mono h, b⟩, mk, cl⟩
/-- the __init__ of an own exception: the base's, then one field -/
def isXInit (b f sf ar : Str) : List Stmt → Bool
  | [.Expr (.Call (.Attribute (.Name b' _) i' ip) [.Name s' _, .Constant (.str _) _ _] [] cp) _, .Assign [.Attribute (.Name s2 _) f' _] (.Name a' _) _] => decide (b' = b) && decide (i' = ("__init__" : Str)) && decide (s' = sf) && decide (s2 = sf) && decide (f' = f) && decide (a' = ar) && (ip.endLine == cp.line)
  | _ => false
theorem goodX_mk {c : Nat} {b f sf ar : Str} {B fI : Addr} {x qual : Str} {params : Arguments} {body : List Stmt} {scope : Scope} {fd : FuncData}
    (F : FunD T.K x qual params body scope [] [] fI fd) (S : FnScope [sf, ar] [sf, ar] scope) (hbody : isXInit b f sf ar body = true) (hs : scope.names.lookup sf = some .local) (ha : scope.names.lookup ar = some .local) (hg : scope.names.lookup b = some .globalImplicit)
    (hd : ((sf == ("__debug__" : Str)) || (sf == ("__classdict__" : Str)) || (ar == ("__debug__" : Str)) || (ar == ("__classdict__" : Str)) || (b == ("__debug__" : Str))) = false) (ox : OexA T.K (T.cA c)) (na : PySem.W.findIn T.K (.ref (T.cA c)) f = some none) (xfe : T.xf c = f)
    (bE : BaseE T.K B) (gB : mg b = some (.ref B)) (iC : PySem.W.findIn T.K (.ref (T.cA c)) "__init__" = some (some (.ref fI))) (tI : PySem.W.typeIn T.K (.ref fI) = some (.type "function"))
    (bd : ∀ (kV doc pm : Value) (an : Option Addr) (cdv ct : Value) (us : List Value), us.length = [sf, ar].length → bindArgs (PySem.W.fnOf x qual params body scope .none kV doc pm an cdv ct) ⟨us, []⟩ = pure ([sf, ar].zip us)) : GoodX P w T mg base 1 c := by
  subst xfe
  refine ⟨ox, fI, fd, [sf, ar], iC, tI, F.ok S (fun vs H Q E h => ?_) (fun cdv A outer s H vs Q E hr h => ?_), F.bindsN bd⟩
  · obtain ⟨e, v, rfl, _⟩ := h
    rfl
  unfold isXInit at hbody
  split at hbody
  · rename_i b' p1 i' ip s' p2 m0 j0 p3 cp p4 s2 p5 f' p6 a' p7 p8
    obtain ⟨hbody, h7⟩ := bk hbody
    obtain ⟨hbody, h6⟩ := bk hbody
    obtain ⟨hbody, h5⟩ := bk hbody
    obtain ⟨hbody, h4⟩ := bk hbody
    obtain ⟨hbody, h3⟩ := bk hbody
    obtain ⟨h1, h2⟩ := bk hbody
    have e1 := of_decide_eq_true h1
    have e2 := of_decide_eq_true h2
    have e3 := of_decide_eq_true h3
    have e4 := of_decide_eq_true h4
    have e5 := of_decide_eq_true h5
    have e6 := of_decide_eq_true h6
    subst e1 e2 e3 e5 e6
    simp only [Bool.or_eq_false_iff] at hd
    obtain ⟨⟨⟨⟨d1, d2⟩, d3⟩, d4⟩, d5⟩ := hd
    let X := cxOf (L2.CX P w) P w T.K mg base [s', a'] qual scope fI cdv A outer s H E
    have vs0 : ∀ {p : Pos}, PE X (.Name s' p) (tVar 0) := fun {p} => pe_var (X := X) (i := 0) rfl (.inl hs) d1 d2
    have vs1 : ∀ {p : Pos}, PE X (.Name a' p) (tVar 1) := fun {p} => pe_var (X := X) (i := 1) rfl (.inl ha) d3 d4
    have hg' : Gl X b' := hg
    obtain ⟨pl, hm⟩ := meth_ok (o := .Name b' p1) (e := .Name b' p1) (m := ("__init__" : Str)) (apos := ip) (pos := cp) (es := [.Name s' p2, .Constant (.str m0) j0 p3]) (env := X.env) rfl h7 rfl (show 2 < 30 by decide)
    have st1 := ps_expr (pos := p4) (pe_aeinit (X := X) (pl := pl) hg' gB bE (pa_cons (vs0 (p := p2)) (pa_cons (pe_str (X := X) (x := m0) (j := j0) (pos := p3)) pa_nil rfl) rfl) d5 hm rfl rfl) rfl
    subst e4
    have st2 := ps_ast (X := X) (f := T.xf c) (p := p6) (pos := p8) (vs0 (p := p5)) (vs1 (p := p7)) rfl
    refine ⟨_, pss_cons st1 (pss_one st2), ?_⟩
    obtain ⟨e, v, rfl, he, q⟩ := h
    exact ⟨.ref e, rfl, e, T.cA c, [.str m0], rfl, (show 1 ≤ 1000 by decide), ox, he, v, rfl, .ref e, rfl, e, T.cA c, rfl, ox, na, he, fun dx n ne => q dx n ne⟩
  · cases hbody
theorem FnScope.by {N ps : List Str} {sc : Scope} (h : ((match sc.kind with | .function => true | _ => false) && !sc.isCoroutine && !sc.isGenerator && decide N.Nodup && decide (N.take ps.length = ps) && (ps.all fun x => (match sc.names.lookup x with | some .local => true | some .cell => true | _ => false)) && (sc.names.all fun y => match y.2 with | .free => false | _ => true)) = true) : FnScope N ps sc := by
  obtain ⟨h, h7⟩ := bk h
  obtain ⟨h, h6⟩ := bk h
  obtain ⟨h, h5⟩ := bk h
  obtain ⟨h, h4⟩ := bk h
  obtain ⟨h, h3⟩ := bk h
  obtain ⟨h1, h2⟩ := bk h
  refine ⟨?_, nb h2, nb h3, of_decide_eq_true h4, of_decide_eq_true h5, fun x hx => ?_, fun y hy e => ?_⟩
  · split at h1
    · assumption
    · cases h1
  · have := List.all_eq_true.mp h6 x hx
    split at this
    · exact .inl (by assumption)
    · exact .inr (by assumption)
    · cases this
  · have := List.all_eq_true.mp h7 y hy
    rw [e] at this
    cases this
end
/-! ### the head's facts, wider -/
abbrev FrB : Type := PySem.W.Frag → Bool
/-- those of the addresses that a mask does not hold -/
def newM : List Addr → Nat → List Addr → List Addr × Nat
  | [], m, acc => (acc, m)
  | a :: r, m, acc => match Nat.beq ((m >>> a) % 2) 1 with
    | true => newM r m acc
    | false => newM r (m ||| 1 <<< a) (a :: acc)
def refsM (g : Addr → Option Obj) : List Addr → Nat → List Addr → List Addr × Nat
  | [], m, acc => (acc, m)
  | a :: r, m, acc => match g a with
    | some o => match newM (He.refsD o) m acc with
      | (acc, m) => refsM g r m acc
    | none => refsM g r m acc
def asM (g : Addr → Option Obj) : Nat → List Addr → Nat → List Addr
  | 0, fr, _ => fr
  | n + 1, fr, m => match refsM g fr m [] with
    | (fr2, m) => fr ++ asM g n fr2 m
def asF (g : Addr → Option Obj) (n : Nat) : List Addr := cStatics :: asM g n [mainGlobals] (1 <<< mainGlobals)
abbrev AlF : Type := He.AlD × Bool
structure SaysF (fa : List He.Fa) (fn : List He.DefD) (ex : List FrB) (K : PySem.W.Frag) : Prop where
  d : He.SaysD fa fn K
  x : (ex.all fun f => f K) = true
theorem SaysF.ex {fa : List He.Fa} {fn : List He.DefD} {ex : List FrB} {K : PySem.W.Frag} (c : SaysF fa fn ex K) (i : Nat) {f : FrB} (h : ex[i]? = some f := by rfl) : f K = true := List.all_eq_true.mp c.x f (List.mem_of_getElem? h)
/-- facts of an exception's class -/
def exF (b x f : Str) : FrB := fun K => oexB K (He.ga K x) && (decide (PySem.W.findIn K (.ref (He.ga K x)) f = some none) && (decide (PySem.W.findIn K (.ref (He.ga K x)) "__init__" = some (some (.ref (He.ma K (He.ga K x) "__init__")))) &&
  (decide (PySem.W.typeIn K (.ref (He.ma K (He.ga K x) "__init__")) = some (.type "function")) && xfB K (He.ga K x))))
def baF (b : Str) : FrB := fun K => decide (PySem.W.specialIn K (.ref (He.ga K b)) "__getattribute__" = some (some (.builtin "type.__getattribute__"))) && (PySem.W.readsIn K (He.ga K b) (.type "type") && (match PySem.W.findCls K (.ref (He.ga K b)) (.type "type") "__init__" with
  | some (.val (.builtin i)) => decide (i = "ArithmeticError.__init__")
  | _ => false))
theorem baF_ok {b : Str} {K : PySem.W.Frag} (h : baF b K = true) : BaseE K (He.ga K b) := by
  obtain ⟨h1, h⟩ := bk h
  obtain ⟨h2, h3⟩ := bk h
  refine ⟨of_decide_eq_true h1, h2, ?_⟩
  split at h3
  · rename_i i e
    rw [e, of_decide_eq_true h3]
  · cases h3
def subF (x y : Str) (v : Bool) : FrB := fun K => decide (PySem.W.exmOne K (.ref (He.ga K x)) (.ref (He.ga K y)) = some v)
/-! ### the law's argument -/
theorem reps_ints {T : Tb} {F : Hp} {l : List Int} : Reps T F (l.map .int) (l.map V.int) := by
  induction l with
  | nil => exact .nil
  | cons i r ih => exact .cons .int ih
/-- all but the tables -/
def noTbl (H : Hp) : Hp := fun b => match H b with
  | some (.tbl _) => none
  | o => o
theorem noTbl_at {H : Hp} {b : Addr} {o : HO} (h : H b = some o) (n : ∀ ps, o ≠ .tbl ps) : noTbl H b = some o := by
  unfold noTbl
  rw [h]
  cases o <;> first | rfl | exact absurd rfl (n _)
theorem noTbl_of {H : Hp} {b : Addr} {o : HO} (h : noTbl H b = some o) : H b = some o ∧ ∀ ps, o ≠ .tbl ps := by
  unfold noTbl at h
  cases e : H b with
  | none => rw [e] at h; cases h
  | some u =>
    rw [e] at h
    cases u with
    | tbl ps => cases h
    | _ => cases h; exact ⟨rfl, fun ps z => by cases z⟩
theorem law_prom {T : Tb} {sp : Spec} {H : Hp} {a : Addr} {ns : List Int} (hs : SqL T.K H a (ns.map V.int)) (h : ∀ Q R, (∀ h', Q (.bl true) h') → sp [.lst (ns.map .int)] (fun _ => none) Q R) (ht : LamX.Tabs T.lam H) : prom T sp [.ref a] H (fun v _ => v = .bl true) (fun _ _ _ => False) := by
  have hs' : SqL T.K (noTbl H) a (ns.map V.int) := by
    rcases hs with (q | ⟨o, q⟩) | q
    · exact .inl (.inl (noTbl_at q fun _ z => by cases z))
    · exact .inl (.inr ⟨o, noTbl_at q fun _ z => by cases z⟩)
    · exact .inr q
  refine ⟨noTbl H, fun _ => none, fun _ => none, [.lst (ns.map .int)], fun d _ => d = .bl true, fun _ _ => False, .cons (.lst hs' reps_ints) .nil, ⟨fun b o e => (noTbl_of e).1, fun b o e => (by cases e), fun b => .inr rfl, fun a c e => (by cases e), ht, fun b ps e => (noTbl_of e).2 ps rfl, fun b ps e => (by cases e)⟩, h _ _ fun _ => rfl, fun d h' v F' H' _ _ r q => ?_, fun x h' F' H' dd v _ _ _ _ q => q⟩
  subst q
  cases r
  rfl
/-! ### laws in which lambdas stand -/
section
variable {P : Program} {w : World} {T : Tb} {Γ : Gam} {mg : Str → Option Value} {base : Heap}
theorem goodL_mk {W : Wd} {k n : Nat} {x qual : Str} {params : Arguments} {body : List Stmt} {scope : Scope} {kws : List (Str × V)} {fd : FuncData} {N ps : List Str} {f : Fd}
    (F : FunD T.K x qual params body scope [] kws (T.fA n) fd) (S : FnScope N ps scope) (og : OkG W T Γ P w mg base k) (hnp : f.np = ps.length) (hns : f.ns = N.length) (hc : chkSs W (ckOf N scope) f.body body = true) (hb : BodyOkD Γ f (Γ.fn n)) (hl : LamD T mg base qual fd)
    (bd : ∀ (kV doc pm : Value) (an : Option Addr) (cdv ct : Value) (us : List Value), us.length = ps.length → bindArgs (PySem.W.fnOf x qual params body scope .none kV doc pm an cdv ct) ⟨us, []⟩ = pure (ps.zip us)) (ha : (W.act || W.acts) = false := by rfl) : Good P w T mg base (k + 3) n (Γ.fn n) :=
  ⟨⟨fd, ps, good_ofL F S og hnp hns hc hb hl ha, F.bindsN bd⟩, F.kp⟩
theorem goodH_mk {W : Wd} {k n : Nat} {x a : Str} {params : Arguments} {body : List Stmt} {scope : Scope} {fd : FuncData} {N : List Str} {f : Fd}
    (F : FunD T.K x x params body scope [] [] (T.fA n) fd) (S : FnScope N [a] scope) (og : OkG W T Γ P w mg base k) (hns : f.ns = N.length) (hc : chkSs W (ckOf N scope) f.body body = true) (hb : BodyOkH Γ f (Γ.hf n)) (hN : N[0]? = some a) (hv : (ckOf N scope).see 0 a = true)
    (bd : ∀ (kV doc pm : Value) (an : Option Addr) (cdv ct : Value) (us : List Value), us.length = [a].length → bindArgs (PySem.W.fnOf x x params body scope .none kV doc pm an cdv ct) ⟨us, []⟩ = pure ([a].zip us)) (hpw : (W.lm || W.act) = false := by rfl) : GoodH P w T mg base k n (Γ.hf n) := by
  have b := F.bindsN bd
  unfold CK.see at hv
  obtain ⟨hv, h4⟩ := bk hv
  obtain ⟨hv, h3⟩ := bk hv
  obtain ⟨h1, h2⟩ := bk hv
  refine ⟨x, a, params, body, scope, fd, N, F, S, hN, ?_, nb h3, nb h4, b, fun cdv => givesL_of S hN og hns hc hb hpw⟩
  unfold Vis
  have h2 : (match scope.names.lookup a with | some .local => true | some .cell => true | some .free => true | _ => false) = true := h2
  cases e : scope.names.lookup a with
  | none => rw [e] at h2; cases h2
  | some k => rw [e] at h2; cases k <;> first | exact .inl rfl | exact .inr (.inl rfl) | exact .inr (.inr rfl) | cases h2
theorem lamD_of {x qual : Str} {params : Arguments} {body : List Stmt} {scope : Scope} {dvs : List V} {kws : List (Str × V)} {fd : FuncData} {p : He.Defn} (F : FunD T.K x qual params body scope dvs kws (He.fAd T.K p) fd) (TB : LamX.TabB base mg (He.cT T.K p).1 (He.cT T.K p).2)
    (hm : ((He.cT T.K p).2, lamq qual) ∈ T.lam) (hu : ∀ q ∈ T.lam, q.1 = (He.cT T.K p).2 → q.2 = lamq qual) : LamD T mg base qual fd := by
  obtain ⟨oc, od, dV, kV, doc, pm, an, cdv, ct, osl, rfl, lk, hcd, _, _⟩ := F.ex
  have : ∃ c, cdv = .ref c := by
    cases cdv with
    | ref c => exact ⟨c, rfl⟩
    | _ => unfold PySem.W.codeIn at hcd; cases hcd
  obtain ⟨c, rfl⟩ := this
  have e := He.codeOf_eq lk rfl
  refine ⟨(He.cT T.K p).1, (He.cT T.K p).2, ?_, TB, hm, hu⟩
  show Value.ref c = .ref (He.codeOf T.K p)
  rw [e]
end
/-- no two defs have one table -/
def disB (tf : List He.Defn) : FrB := fun K => tf.all fun p => tf.all fun q => decide ((He.cT K p).2 ≠ (He.cT K q).2) || decide (p = q)
def lamL (K : PySem.W.Frag) (tf : List (He.Defn × Str)) : List (Addr × Str) := tf.map fun p => ((He.cT K p.1).2, lamq p.2)
theorem lamL_one {K : PySem.W.Frag} {tf : List (He.Defn × Str)} {p : He.Defn × Str} (hp : p ∈ tf) (hd : disB (tf.map (·.1)) K = true) (inj : ∀ q ∈ tf, q.1 = p.1 → q.2 = p.2) : ∀ q ∈ lamL K tf, q.1 = (He.cT K p.1).2 → q.2 = lamq p.2 := by
  intro q hq e
  obtain ⟨r, hr, rfl⟩ := List.mem_map.mp hq
  have h1 := List.all_eq_true.mp (List.all_eq_true.mp hd r.1 (List.mem_map.mpr ⟨r, hr, rfl⟩)) p.1 (List.mem_map.mpr ⟨p, hp, rfl⟩)
  rcases Bool.or_eq_true_iff.mp h1 with z | z
  · exact absurd e (of_decide_eq_true z)
  · show lamq r.2 = lamq p.2
    rw [inj r hr (of_decide_eq_true z)]
def obsLm (n : Nat) (fa : List He.Fa) (fn : List He.DefD) (ex : List FrB) (tf : List He.Defn) (g : Addr → Option Obj) : AlF := (He.obsD fa fn (He.frT g (asF g n)), (ex.all fun f => f (He.frT g (asF g n))) && He.tabsB g tf (He.frT g (asF g n)))
structure SaysL (fa : List He.Fa) (fn : List He.DefD) (ex : List FrB) (tf : List He.Defn) (h : Heap) (K : PySem.W.Frag) : Prop where
  f : SaysF fa fn ex K
  hd : ∀ p ∈ tf, PySem.W.codeHdIn K (He.cT K p).1 (He.cT K p).2 = true
  out : ∀ p ∈ tf, K.lookup (He.cT K p).2 = none
  empty : ∀ p ∈ tf, h.get? (He.cT K p).2 = some { cls := .none, data := .fields #[] }
theorem saysL_of {n : Nat} {fa : List He.Fa} {fn : List He.DefD} {ex : List FrB} {tf : List He.Defn} {h : Heap} (e : obsLm n fa fn ex tf h.get? = (He.valD fn, true)) : SaysL fa fn ex tf h (He.frT h.get? (asF h.get? n)) := by
  have e1 : He.obsD fa fn (He.frT h.get? (asF h.get? n)) = He.valD fn := congrArg (fun z : AlF => z.1) e
  have e2 : ((ex.all fun f => f (He.frT h.get? (asF h.get? n))) && He.tabsB h.get? tf (He.frT h.get? (asF h.get? n))) = true := congrArg (fun z : AlF => z.2) e
  generalize hK : He.frT h.get? (asF h.get? n) = K at e1 e2
  obtain ⟨h1, h2⟩ := bk e2
  have at_ : ∀ p ∈ tf, PySem.W.codeHdIn K (He.cT K p).1 (He.cT K p).2 = true ∧ ∃ o, h.get? (He.cT K p).2 = some o ∧ He.emptyTab o = true := by
    intro p hp
    obtain ⟨h3, h4⟩ := bk (List.all_eq_true.mp h2 p hp)
    refine ⟨h3, ?_⟩
    cases q : h.get? (He.cT K p).2 with
    | none => rw [q] at h4; cases h4
    | some o => rw [q] at h4; exact ⟨o, rfl, h4⟩
  refine ⟨⟨e1, h1⟩, fun p hp => (at_ p hp).1, fun p hp => ?_, fun p hp => ?_⟩
  · obtain ⟨_, o, q, z⟩ := at_ p hp
    rw [← hK] at q ⊢
    exact He.frT_none q z
  · obtain ⟨_, o, q, z⟩ := at_ p hp
    rw [q, He.emptyTab_eq z]
def hookLm (n : Nat) (fa : List He.Fa) (fn : List He.DefD) (ex : List FrB) (tf : List He.Defn) : PySem.W.Hook where
  α := AlF
  obs := fun s => obsLm n fa fn ex tf s.heap.get?
  val := fun _ => (He.valD fn, true)
  says := fun _ h => ∃ K : PySem.W.Frag, K.In h ∧ SaysL fa fn ex tf h K
  of := fun _ _ e => ⟨_, He.frT_in, saysL_of e⟩
  keeps := fun _ _ _ ⟨K, hK, c⟩ k => ⟨K, PySem.W.Frag.In.keeps hK k, c.f, c.hd, c.out, fun p hp => k _ _ (c.empty p hp)⟩
theorem obsLm_eq {n : Nat} {fa : List He.Fa} {fn : List He.DefD} {ex : List FrB} {tf : List He.Defn} {g : Addr → Option Obj} {s : Shared} (h : ∀ a, g a = s.heap.get? a) : obsLm n fa fn ex tf g = (hookLm n fa fn ex tf).obs s := by
  have e : g = s.heap.get? := funext h
  rw [e] <;> rfl
/-! ### dicts of the module -/
def kitF (a b : Str) (v : Bool) : FrB := fun K => decide (PySem.W.kitOne K (.ref (He.ga K a)) (.ref (He.ga K b)) = some v)
def kitA (a : Str) : FrB := fun K => decide (PySem.W.kitOne K (.ref (He.ga K a)) (.type "ArithmeticError") = some true)
def excF (a : Str) : FrB := fun K => excEB K (He.ga K a)
/-- the end of a law in which lambdas stand -/
theorem law_endL {l : PySem.W.OpenLaw} {k : Nat} {q : Program} {loose : List Str} {XP : (Str → Option Value) → Heap → Prop} {YP : World → Heap → Prop} {d : DefRec} {x : Str} (hn : l.most = some 63) (hdf : d.params.defaults = []) (hr : Room k callerA)
    (F : ∀ (w : World) (mg : Str → Option Value) (fa : Addr) (h : Heap), YP w h → h.Ns mainGlobals mg → mg d.name = some (.ref fa) → ∃ (T : Tb) (fd : FuncData) (sp : Spec) (tf : List (He.Defn × Str)), T.K.In h ∧ T.lam = lamL T.K tf ∧ (∀ p ∈ tf.map (·.1), h.get? (He.cT T.K p).2 = some { cls := .none, data := .fields #[] }) ∧
      (∀ p ∈ tf.map (·.1), T.K.lookup (He.cT T.K p).2 = none) ∧ (∀ p ∈ tf.map (·.1), PySem.W.codeHdIn T.K (He.cT T.K p).1 (He.cT T.K p).2 = true) ∧ (∀ (s : Shared) (u : Value), BindsTo s fd ⟨[u], []⟩ [(x, u)]) ∧
      (∀ (ns : List Int) Q R, ns.length ≤ 63 → (∀ h', Q (.bl true) h') → sp [.lst (ns.map .int)] (fun _ => none) Q R) ∧
      ∀ base : Heap, T.K.In base → base.Ns mainGlobals mg → (∀ p ∈ tf.map (·.1), LamX.TabB base mg (He.cT T.K p).1 (He.cT T.K p).2) → FnOk l.prog w T.K mg base (L2.CX l.prog w) k fa fd [x] (prom T sp)) :
    PySem.W.WalkO q loose XP YP l.row.toRowW d [] (fun f vs => PySem.call f vs) := by
  refine LamX.walk_ofTsE (CX := fun w => L2.CX l.prog w) (x := x) (k := k) hn (by decide) hdf hr (fun w mg fa h Y G hmg => ?_) ?_
  · obtain ⟨T, fd, sp, tf, hK, hL, hE, hO, hC, hb, hsp, hF⟩ := F w mg fa h Y G hmg
    refine ⟨T.K, hK, fd, (tf.map (·.1)).map (He.cT T.K), prom T sp, ?_, ?_, ?_, hb, ?_, ?_⟩
    · rintro p hp
      obtain ⟨r, hr, rfl⟩ := List.mem_map.mp hp
      exact hE r hr
    · rintro p hp
      obtain ⟨r, hr, rfl⟩ := List.mem_map.mp hp
      exact hO r hr
    · rintro p hp
      obtain ⟨r, hr, rfl⟩ := List.mem_map.mp hp
      exact PySem.W.codeHd_of_K hK (hC r hr)
    · intro H a ns hl _ hT hS
      refine law_prom hS (fun Q R => hsp ns Q R hl) ?_
      rw [hL]
      rintro p hp
      obtain ⟨r, hr, rfl⟩ := List.mem_map.mp hp
      exact LamX.TabS.nil (hT (He.cT T.K r.1) (List.mem_map.mpr ⟨r.1, List.mem_map.mpr ⟨r, hr, rfl⟩, rfl⟩))
    · intro base hKb hN hTB
      exact hF base hKb hN fun p hp => hTB (He.cT T.K p) (List.mem_map.mpr ⟨p, hp, rfl⟩)
  · intro w H s e s' z
    obtain ⟨_, _, _, _, _, _, _, _, _, _, _, _, z⟩ := z
    exact z
end FF
set_option maxHeartbeats 0
namespace FF
open PySem PySem.Spec PyProof.Rows L2
abbrev tp (i : Nat) : Stmt := PySem.Challenge.pw_farfloats_k67_texts_that_are_no_decimals.main.body.getD i (.Pass ⟨0, 0, 0, 0⟩)
abbrev tpm (i j : Nat) : Stmt := (clsBody (tp i)).getD j (.Pass ⟨0, 0, 0, 0⟩)
def tfL : List (He.Defn × Str) := [(("_law_known_right", none), "_law_known_right"), (("law", none), "law")]
def d_reduced : He.DefD := ⟨("reduced", none), "reduced", "reduced", defArgs (tp 12), defBody (tp 12), defScope (tp 12), [], []⟩
def d_figures_end : He.DefD := ⟨("figures_end", none), "figures_end", "figures_end", defArgs (tp 13), defBody (tp 13), defScope (tp 13), [], []⟩
def d_last_part : He.DefD := ⟨("last_part", none), "last_part", "last_part", defArgs (tp 14), defBody (tp 14), defScope (tp 14), [], []⟩
def d_read_decimal : He.DefD := ⟨("read_decimal", none), "read_decimal", "read_decimal", defArgs (tp 15), defBody (tp 15), defScope (tp 15), [], []⟩
def d_l_cell_at : He.DefD := ⟨("_law_cell_at", none), "_law_cell_at", "_law_cell_at", defArgs (tp 17), defBody (tp 17), defScope (tp 17), [], []⟩
def d_l_source_of : He.DefD := ⟨("_law_source_of", none), "_law_source_of", "_law_source_of", defArgs (tp 18), defBody (tp 18), defScope (tp 18), [], []⟩
def d_l_next : He.DefD := ⟨("_law_next", none), "_law_next", "_law_next", defArgs (tp 19), defBody (tp 19), defScope (tp 19), [], []⟩
def d_l_one : He.DefD := ⟨("_law_one", none), "_law_one", "_law_one", defArgs (tp 20), defBody (tp 20), defScope (tp 20), [], []⟩
def d_l_wide : He.DefD := ⟨("_law_wide", none), "_law_wide", "_law_wide", defArgs (tp 21), defBody (tp 21), defScope (tp 21), [], []⟩
def d_l_tens : He.DefD := ⟨("_law_tens", none), "_law_tens", "_law_tens", defArgs (tp 22), defBody (tp 22), defScope (tp 22), [], []⟩
def d_l_reduced : He.DefD := ⟨("_law_reduced", none), "_law_reduced", "_law_reduced", defArgs (tp 23), defBody (tp 23), defScope (tp 23), [], []⟩
def d_l_figures : He.DefD := ⟨("_law_figures", none), "_law_figures", "_law_figures", defArgs (tp 24), defBody (tp 24), defScope (tp 24), [], []⟩
def d_l_text : He.DefD := ⟨("_law_text", none), "_law_text", "_law_text", defArgs (tp 25), defBody (tp 25), defScope (tp 25), [], []⟩
def d_l_said : He.DefD := ⟨("_law_said", none), "_law_said", "_law_said", defArgs (tp 26), defBody (tp 26), defScope (tp 26), [], []⟩
def d_l_go : He.DefD := ⟨("_law_go", none), "_law_go", "_law_go", defArgs (tp 27), defBody (tp 27), defScope (tp 27), [], []⟩
def d_l_wrong : He.DefD := ⟨("_law_wrong", none), "_law_wrong", "_law_wrong", defArgs (tp 28), defBody (tp 28), defScope (tp 28), [], []⟩
def d_l_bent : He.DefD := ⟨("_law_bent", none), "_law_bent", "_law_bent", defArgs (tp 29), defBody (tp 29), defScope (tp 29), [], []⟩
def d_l_known_right : He.DefD := ⟨("_law_known_right", none), "_law_known_right", "_law_known_right", defArgs (tp 30), defBody (tp 30), defScope (tp 30), [], []⟩
def d_law : He.DefD := ⟨("law", none), "law", "law", defArgs (tp 31), defBody (tp 31), defScope (tp 31), [], []⟩
def dx_InvalidFormat : He.DefD := ⟨("InvalidFormat", some "__init__"), "__init__", "InvalidFormat.__init__", defArgs (tpm 2 0), defBody (tpm 2 0), defScope (tpm 2 0), [], []⟩
def dx_InvalidBound : He.DefD := ⟨("InvalidBound", some "__init__"), "__init__", "InvalidBound.__init__", defArgs (tpm 3 0), defBody (tpm 3 0), defScope (tpm 3 0), [], []⟩
def dx_InvalidText : He.DefD := ⟨("InvalidText", some "__init__"), "__init__", "InvalidText.__init__", defArgs (tpm 4 0), defBody (tpm 4 0), defScope (tpm 4 0), [], []⟩
def dx_InvalidCall : He.DefD := ⟨("InvalidCall", some "__init__"), "__init__", "InvalidCall.__init__", defArgs (tpm 5 0), defBody (tpm 5 0), defScope (tpm 5 0), [], []⟩
def dx_Overflow : He.DefD := ⟨("Overflow", some "__init__"), "__init__", "Overflow.__init__", defArgs (tpm 6 0), defBody (tpm 6 0), defScope (tpm 6 0), [], []⟩
def dx_LimitExceeded : He.DefD := ⟨("LimitExceeded", some "__init__"), "__init__", "LimitExceeded.__init__", defArgs (tpm 7 0), defBody (tpm 7 0), defScope (tpm 7 0), [], []⟩
def fnL : List He.DefD := [d_reduced, d_figures_end, d_last_part, d_read_decimal, d_l_cell_at, d_l_source_of, d_l_next, d_l_one, d_l_wide, d_l_tens, d_l_reduced, d_l_figures, d_l_text, d_l_said, d_l_go, d_l_wrong, d_l_bent, d_l_known_right, d_law, dx_InvalidFormat, dx_InvalidBound, dx_InvalidText, dx_InvalidCall, dx_Overflow, dx_LimitExceeded]
def faL : List He.Fa := [.glo "reduced", .glo "figures_end", .glo "last_part", .glo "read_decimal", .glo "_law_cell_at", .glo "_law_source_of", .glo "_law_next", .glo "_law_one", .glo "_law_wide", .glo "_law_tens", .glo "_law_reduced", .glo "_law_figures", .glo "_law_text", .glo "_law_said", .glo "_law_go", .glo "_law_wrong", .glo "_law_bent", .glo "_law_known_right", .glo "law", .free "abs", .free "int", .free "len", .free "max", .free "min", .free "sum", .free "all", .free "any", .free "range", .free "zip", .free "enumerate", .free "isinstance", .free "bool", .free "str", .free "tuple", .free "list", .free "divmod", .free "sorted", .free "set", .free "dict", .glo "Overflow", .glo "InvalidBound", .glo "InvalidFormat", .glo "InvalidText", .glo "InvalidCall", .glo "LimitExceeded", .free "ArithmeticError", .str "FIGURES" (sOf [48, 49, 50, 51, 52, 53, 54, 55, 56, 57]), .int "MOST_LAST_FIGURES" 3, .int "MOST_FIGURES" 100, .glo "FloatsError"]
def exL : List FrB := [excF "InvalidText", kitF "InvalidText" "Overflow" false, kitF "InvalidText" "InvalidBound" false, kitF "InvalidText" "InvalidFormat" false, kitF "InvalidText" "InvalidText" true, kitF "InvalidText" "InvalidCall" false, kitF "InvalidText" "LimitExceeded" false, kitA "InvalidText", baF "FloatsError", exF "FloatsError" "InvalidFormat" "part", exF "FloatsError" "InvalidBound" "argument", exF "FloatsError" "InvalidText" "sign", exF "FloatsError" "InvalidCall" "call", exF "FloatsError" "Overflow" "sign", exF "FloatsError" "LimitExceeded" "limit", subF "InvalidText" "FloatsError" true, subF "InvalidText" "Overflow" false, subF "InvalidText" "InvalidBound" false, subF "InvalidText" "InvalidFormat" false, subF "InvalidText" "InvalidText" true, subF "InvalidText" "InvalidCall" false, subF "InvalidText" "LimitExceeded" false, disB (tfL.map (·.1))]
abbrev Rr : PySem.W.OpenRow := PySem.W.OpenLaw.row PySem.Challenge.rw_farfloats_k67_texts_that_are_no_decimals
abbrev hk : PySem.W.Hook := hookLm 6 faL fnL exL (tfL.map (·.1))
def ob (s : PySem.W.SharedT) : AlF := obsLm 6 faL fnL exL (tfL.map (·.1)) (HandSHeadRun.getT s)
theorem ob_eq (s : PySem.W.SharedT) : ob s = hk.obs s.abs := obsLm_eq (HandSHeadRun.getT_eq s)
theorem run_ (w : World) : HandSHeadRun.RunEq Rr (PySem.W.view Rr.prog [31]) hk ob 6000 [("FloatsError" : Str), ("InvalidFormat" : Str), ("InvalidBound" : Str), ("InvalidText" : Str), ("InvalidCall" : Str), ("Overflow" : Str), ("LimitExceeded" : Str), ("reduced" : Str), ("figures_end" : Str), ("last_part" : Str), ("read_decimal" : Str), ("_law_cell_at" : Str), ("_law_source_of" : Str), ("_law_next" : Str), ("_law_one" : Str), ("_law_wide" : Str), ("_law_tens" : Str), ("_law_reduced" : Str), ("_law_figures" : Str), ("_law_text" : Str), ("_law_said" : Str), ("_law_go" : Str), ("_law_wrong" : Str), ("_law_bent" : Str), ("_law_known_right" : Str), ("FIGURES" : Str), ("MOST_FIGURES" : Str), ("MOST_LAST_FIGURES" : Str)] w := by
  intro os
  kernel_rfl
end FF
namespace FF
theorem ixL0 {x : D} {l : List D} : ixP (x :: l).length 0 = some 0 := by
  unfold ixP
  rw [if_pos (by decide), if_pos (by rw [List.length_cons]; omega)]; rfl
theorem ixL1 {x y : D} {l : List D} : ixP (x :: y :: l).length 1 = some 1 := by
  unfold ixP
  rw [if_pos (by decide), if_pos (by rw [List.length_cons, List.length_cons]; omega)]; rfl
theorem ixL2 {x y z : D} {l : List D} : ixP (x :: y :: z :: l).length 2 = some 2 := by
  unfold ixP
  rw [if_pos (by decide), if_pos (by rw [List.length_cons, List.length_cons, List.length_cons]; omega)]; rfl
/-! ### sizes -/
def Sz (p : Nat) (i : Int) : Prop := i.natAbs < 2 ^ p
theorem bitsI_le {i : Int} {p : Nat} (h : Sz p i) : bitsI i ≤ p := by
  unfold bitsI
  by_cases e : i = 0
  · rw [if_pos e]; exact Nat.zero_le _
  · rw [if_neg e]
    have := (Nat.log2_lt (n := i.natAbs) (k := p) (by omega)).mpr h
    omega
theorem mul_ok {i j : Int} {p q : Nat} (hi : Sz p i) (hj : Sz q j) (h : p + q ≤ 134217728) : mulOk i j := .inl (by
  have := bitsI_le hi
  have := bitsI_le hj
  omega)
theorem Sz.mono {p q : Nat} {i : Int} (h : Sz p i) (l : p ≤ q) : Sz q i := Nat.lt_of_lt_of_le h (Nat.pow_le_pow_right (by decide) l)
theorem Sz.add {p : Nat} {i j : Int} (hi : Sz p i) (hj : Sz p j) : Sz (p + 1) (i + j) := by
  unfold Sz at *
  have := Int.natAbs_add_le i j
  have : 2 ^ (p + 1) = 2 * 2 ^ p := by rw [Nat.pow_succ, Nat.mul_comm]
  omega
theorem Sz.sub {p : Nat} {i j : Int} (hi : Sz p i) (hj : Sz p j) : Sz (p + 1) (i - j) := by
  have : i - j = i + -j := Int.sub_eq_add_neg
  rw [this]
  exact hi.add (by unfold Sz at *; rw [Int.natAbs_neg]; exact hj)
theorem Sz.mul {p q : Nat} {i j : Int} (hi : Sz p i) (hj : Sz q j) : Sz (p + q) (i * j) := by
  unfold Sz at *
  rw [Int.natAbs_mul, Nat.pow_add]
  exact Nat.mul_lt_mul'' hi hj
theorem Sz.mod {p : Nat} {i j : Int} (hj : Sz p j) (h0 : 0 < j) : Sz p (i % j) := by
  unfold Sz at *
  have h2 := Int.emod_nonneg i (show j ≠ 0 by omega)
  have h3 := Int.emod_lt_of_pos i h0
  omega
theorem fdiv_pos {i j : Int} (h : 0 < j) : i.fdiv j = i / j := Int.fdiv_eq_ediv_of_nonneg i (Int.le_of_lt h)
theorem fmod_pos {i j : Int} (h : 0 < j) : i.fmod j = i % j := Int.fmod_eq_emod_of_nonneg i (Int.le_of_lt h)
/-! ### sums -/
def sumI : Nat → (Nat → Int) → Int
  | 0, _ => 0
  | n + 1, f => sumI n f + f n
def ind (p : Prop) [Decidable p] : Int := if p then 1 else 0
/-! ### sums of floors -/
/-! ### a whole round -/
/-! ### a for loop by its invariant -/
theorem forL_inv {Γ : Gam} {b : Ss} {bind : D → Env → (Env → Prop) → Prop} {I : Nat → Env → AH → Prop} {P : Post} : ∀ (ds : List D) {j : Nat} {σ : Env} {h : AH},
    (∀ d ∈ ds, ∀ j σ h, I j σ h → ∀ P' : Post, (∀ σ' h', I (j + 1) σ' h' → P'.nx σ' h') → (∀ σ' h', I (j + 1) σ' h' → P'.ct σ' h') → P'.rt = P.rt → P'.R = P.R → bind d σ fun σ' => wpSs Γ b σ' h P') →
    I j σ h → (∀ σ h, I (j + ds.length) σ h → P.nx σ h) → forL (fun σ h P => wpSs Γ b σ h P) bind ds σ h P
  | [], _, σ, h, _, i, k => k σ h i
  | d :: r, j, σ, h, hs, i, k => by
    have e : j + (r.length + 1) = j + 1 + r.length := by omega
    have rest : ∀ σ' h', I (j + 1) σ' h' → forL (fun σ h P => wpSs Γ b σ h P) bind r σ' h' P := fun σ' h' i' => forL_inv r (fun d hd => hs d (List.mem_cons_of_mem _ hd)) i' fun σ h i => k σ h (by rw [List.length_cons, e]; exact i)
    exact hs d List.mem_cons_self j σ h i _ rest rest rfl rfl
end FF
namespace FF
/-! ### fractions without common divisors -/
abbrev gg (n d : Int) : Int := (Int.gcd n d : Int)
def fr (n d : Int) : Int × Int := (n / gg n d, d / gg n d)
theorem gg_pos {n d : Int} (h : 0 < d) : 0 < gg n d := by
  have : Int.gcd n d ≠ 0 := fun e => by
    have := (Int.gcd_eq_zero_iff.mp e).2
    omega
  show (0 : Int) < (Int.gcd n d : Int)
  omega
theorem fr_mul {n d : Int} : n = gg n d * (fr n d).1 ∧ d = gg n d * (fr n d).2 := by
  constructor
  · show n = gg n d * (n / gg n d)
    rw [Int.mul_ediv_cancel' (Int.gcd_dvd_left ..)]
  · show d = gg n d * (d / gg n d)
    rw [Int.mul_ediv_cancel' (Int.gcd_dvd_right ..)]
theorem fr_scale {a b k : Int} (hk : 0 < k) (hb : 0 < b) : fr (k * a) (k * b) = fr a b := by
  have e : gg (k * a) (k * b) = k * gg a b := by
    show ((Int.gcd (k * a) (k * b) : Nat) : Int) = k * ((Int.gcd a b : Nat) : Int)
    rw [Int.gcd_mul_left, Int.natCast_mul]
    congr 1
    omega
  unfold fr
  rw [e, Int.mul_ediv_mul_of_pos _ _ hk, Int.mul_ediv_mul_of_pos _ _ hk]
theorem fr_of {a b c d : Int} (hb : 0 < b) (hd : 0 < d) (h : a * d = c * b) : fr a b = fr c d := by
  have e1 := fr_scale (a := a) hd hb
  have e2 := fr_scale (a := c) hb hd
  rw [← e1, ← e2, Int.mul_comm d a, h, Int.mul_comm c b, Int.mul_comm d b]
theorem fr_eq {a b c d : Int} (hb : 0 < b) (hd : 0 < d) : fr a b = fr c d ↔ a * d = c * b := by
  refine ⟨fun h => ?_, fr_of hb hd⟩
  obtain ⟨h1, h2⟩ := fr_mul (n := a) (d := b)
  obtain ⟨h3, h4⟩ := fr_mul (n := c) (d := d)
  rw [h] at h1 h2
  generalize gg a b = g at *
  generalize gg c d = k at *
  generalize fr c d = x at *
  obtain ⟨x, y⟩ := x
  have h1 : a = g * x := h1
  have h2 : b = g * y := h2
  have h3 : c = k * x := h3
  have h4 : d = k * y := h4
  rw [h1, h2, h3, h4]
  rw [Int.mul_assoc, Int.mul_assoc, Int.mul_left_comm x k y, Int.mul_left_comm g k, Int.mul_left_comm x g y]
theorem mul_lt_iff {a b k : Int} (hk : 0 < k) : k * a < k * b ↔ a < b := by
  constructor
  · intro h
    apply Classical.byContradiction
    intro z
    have := Int.mul_le_mul_of_nonneg_left (show b ≤ a by omega) (Int.le_of_lt hk)
    omega
  · exact fun h => Int.mul_lt_mul_of_pos_left h hk
theorem mul_le_iff {a b k : Int} (hk : 0 < k) : k * a ≤ k * b ↔ a ≤ b := by
  have := mul_lt_iff (a := b) (b := a) hk
  omega
/-! ### powers of two -/
def up (k : Int) : Int := 2 ^ k.toNat
def dn (k : Int) : Int := 2 ^ (-k).toNat
theorem two_pos (n : Nat) : (0 : Int) < 2 ^ n := Int.pow_pos (by decide)
theorem up_pos {k : Int} : 0 < up k := two_pos _
theorem dn_pos {k : Int} : 0 < dn k := two_pos _
theorem up_dn (i j : Nat) : up ((i : Int) - j) * 2 ^ j = dn ((i : Int) - j) * 2 ^ i := by
  unfold up dn
  rw [← Int.pow_add, ← Int.pow_add]
  congr 1
  omega
/-- 2 ** k is at most n / d -/
def le2 (k n d : Int) : Prop := up k * d ≤ n * dn k
theorem le2_iff {n d : Int} (i j : Nat) : le2 ((i : Int) - j) n d ↔ 2 ^ i * d ≤ n * 2 ^ j := by
  unfold le2
  have e := up_dn i j
  have p := dn_pos (k := (i : Int) - j)
  have q := two_pos j
  generalize up ((i : Int) - j) = u at *
  generalize dn ((i : Int) - j) = v at *
  generalize (2 : Int) ^ i = x at *
  generalize (2 : Int) ^ j = y at *
  rw [← mul_le_iff (a := u * d) q, ← mul_le_iff (a := x * d) p]
  have e1 : y * (u * d) = v * (x * d) := by rw [← Int.mul_assoc, Int.mul_comm y u, e, Int.mul_assoc]
  have e2 : y * (n * v) = v * (n * y) := by rw [Int.mul_comm n v, Int.mul_comm n y, ← Int.mul_assoc, Int.mul_comm y v, Int.mul_assoc]
  rw [e1, e2]
theorem le2_at {k n d : Int} (i j : Nat) (h : k = (i : Int) - j) : le2 k n d ↔ 2 ^ i * d ≤ n * 2 ^ j := by subst h; exact le2_iff i j
theorem pow_le {i j : Nat} (h : i ≤ j) : (2 : Int) ^ i ≤ 2 ^ j := by
  obtain ⟨k, rfl⟩ := Nat.exists_eq_add_of_le h
  rw [Int.pow_add]
  have := two_pos i
  have h2 := two_pos k
  have := Int.mul_le_mul_of_nonneg_left (show (1 : Int) ≤ 2 ^ k by omega) (Int.le_of_lt this)
  omega
theorem le2.mono {k k' n d : Int} (h : le2 k' n d) (l : k ≤ k') (hd : 0 ≤ d) : le2 k n d := by
  have e1 := le2_at (n := n) (d := d) (k := k) (k + (-k).toNat).toNat (-k).toNat (by omega)
  have e2 := le2_at (n := n) (d := d) (k := k') (k' + (-k).toNat).toNat (-k).toNat (by omega)
  rw [e2] at h
  rw [e1]
  have := Int.mul_le_mul_of_nonneg_right (pow_le (show (k + (-k).toNat).toNat ≤ (k' + (-k).toNat).toNat by omega)) hd
  omega
instance {k n d : Int} : Decidable (le2 k n d) := by unfold le2; exact inferInstance
theorem le2_scale {k n d c : Int} (hc : 0 < c) : le2 k (c * n) (c * d) ↔ le2 k n d := by
  unfold le2
  have e1 : up k * (c * d) = c * (up k * d) := Int.mul_left_comm ..
  have e2 : c * n * dn k = c * (n * dn k) := Int.mul_assoc ..
  rw [e1, e2, mul_le_iff hc]
theorem Sz.up {k : Int} {N : Nat} (h : k ≤ N) : Sz (N + 1) (up k) := by
  unfold Sz FF.up
  rw [Int.natAbs_pow]
  exact Nat.pow_lt_pow_right (by decide) (by omega)
/-! ### the exponent of the unit -/
def UEx (p lo n d e : Int) : Prop := lo ≤ e ∧ ¬ le2 (e + p) (n.natAbs : Int) d ∧ (e = lo ∨ le2 (e - 1 + p) (n.natAbs : Int) d)
theorem UEx.uniq {p lo n d e e' : Int} (hd : 0 < d) (h : UEx p lo n d e) (h' : UEx p lo n d e') : e = e' := by
  obtain ⟨a1, a2, a3⟩ := h
  obtain ⟨b1, b2, b3⟩ := h'
  rcases Int.lt_trichotomy e e' with z | z | z
  · rcases b3 with q | q
    · omega
    · exact absurd (q.mono (show e + p ≤ e' - 1 + p by omega) (Int.le_of_lt hd)) a2
  · exact z
  · rcases a3 with q | q
    · omega
    · exact absurd (q.mono (show e' + p ≤ e - 1 + p by omega) (Int.le_of_lt hd)) b2
theorem UEx.scale {p lo n d e c : Int} (hc : 0 < c) : UEx p lo (c * n) (c * d) e ↔ UEx p lo n d e := by
  unfold UEx
  have : (((c * n).natAbs : Nat) : Int) = c * ((n.natAbs : Nat) : Int) := by
    rw [Int.natAbs_mul, Int.natCast_mul]
    congr 1
    omega
  rw [this, le2_scale hc, le2_scale hc]
theorem UEx.fr {p lo n d e : Int} (hd : 0 < d) : UEx p lo (fr n d).1 (fr n d).2 e ↔ UEx p lo n d e := by
  have h := fr_mul (n := n) (d := d)
  have g := gg_pos (n := n) hd
  rw [← UEx.scale (n := (FF.fr n d).1) g, ← h.1, ← h.2]
end FF
namespace FF
theorem BodyOk.d {Γ : Gam} {f : Fd} {sp : Spec} (h : BodyOk Γ f sp) (mono : ∀ ds h Q Q' R R', (∀ d h, Q d h → Q' d h) → (∀ x h, R x h → R' x h) → sp ds h Q R → sp ds h Q' R') : BodyOkD Γ f sp := fun ds h0 Q R s => by
  have := h ds h0 (fun d h => ∃ h', AH.Sub h' h ∧ Q d h') (fun x h => ∃ h', AH.Sub h' h ∧ R x h') (mono _ _ _ _ _ _ (fun d h q => ⟨h, AH.Sub.refl _, q⟩) (fun x h q => ⟨h, AH.Sub.refl _, q⟩) s)
  exact this
/-! ### integers -/
/-! ### sums of floors -/
/-! ### ranges -/
end FF
namespace FF
/-- a source of digits at a, drawn from at most k times -/
def Wel (k : Nat) (h : AH) (a : Nat) : Prop := ∃ w0 w1 w2, h a = some (.lst [.int w0, .int w1, .int w2]) ∧ 0 ≤ w1 ∧ w1 < 2147483648 ∧ 0 ≤ w2 ∧ w2 ≤ (k : Int)
theorem Wel.mono {j k : Nat} {h : AH} {a : Nat} (w : Wel j h a) (l : j ≤ k) : Wel k h a := by
  obtain ⟨w0, w1, w2, e, h1, h2, h3, h4⟩ := w
  exact ⟨w0, w1, w2, e, h1, h2, h3, by omega⟩
def Fr (a : Nat) (h h' : AH) : Prop := ∀ b, b ≠ a → h' b = h b
theorem Fr.refl {a : Nat} {h : AH} : Fr a h h := fun _ _ => rfl
theorem Fr.trans {a : Nat} {h h1 h2 : AH} (x : Fr a h h1) (y : Fr a h1 h2) : Fr a h h2 := fun b n => (y b n).trans (x b n)
def sp_draw : Spec := fun ds h Q _ => ∃ a many k, ds = [.ref a, .int many] ∧ 0 < many ∧ bitsI many ≤ 9000 ∧ Wel k h a ∧ k < 1073741824 ∧ ∀ d h', 0 ≤ d → d < many → Wel (k + 1) h' a → Fr a h h' → Q (.int d) h'
theorem mul_small {i j : Int} (h : Sz 64 i) : mulOk i j := .inr (.inl (bitsI_le h))
theorem mul_small2 {i j : Int} (h : Sz 64 j) : mulOk i j := .inr (.inr (bitsI_le h))
def sp_well : Spec := fun ds h Q _ => ∃ c, ds = [.int c] ∧ ∀ a h', h a = none → Wel 0 h' a → Fr a h h' → Q (.ref a) h'
theorem ixP_ok {n : Nat} {i : Int} (h0 : 0 ≤ i) (h1 : i < n) : ixP n i = some i.toNat := by
  unfold ixP
  rw [if_pos h0, if_pos h1]
theorem ok_int {i j : Int} : eqOk (.int i) (.int j) := ⟨rfl, rfl⟩
theorem m_draw : ∀ ds h Q Q' R R', (∀ d h, Q d h → Q' d h) → (∀ x h, R x h → R' x h) → sp_draw ds h Q R → sp_draw ds h Q' R' := by
  rintro ds h Q Q' R R' k _ ⟨a1, a2, a3, a4, a5, a6, a7, a8, q⟩
  exact ⟨a1, a2, a3, a4, a5, a6, a7, a8, fun d h' b1 b2 b3 b4 => k _ _ (q d h' b1 b2 b3 b4)⟩
theorem m_well : ∀ ds h Q Q' R R', (∀ d h, Q d h → Q' d h) → (∀ x h, R x h → R' x h) → sp_well ds h Q R → sp_well ds h Q' R' := by
  rintro ds h Q Q' R R' k _ ⟨a1, a2, q⟩
  exact ⟨a1, a2, fun a h' b1 b2 b3 => k _ _ (q a h' b1 b2 b3)⟩
end FF
namespace FF
/-- of the integers from u to v: those whose residue is k at the most -/
def CN (u v a b m k : Int) : Int := sumI (v - u + 1).toNat fun i => ind ((a * (u + i) + b) % m ≤ k)
/-! ### readings -/
def sp_count_of : Spec := fun ds h Q _ => ∃ u v a b m l g, ds = [.int u, .int v, .int a, .int b, .int m, .int l, .int g] ∧ 0 < m ∧ -m ≤ g - l ∧ g - l < m ∧ Sz 1800 u ∧ Sz 1800 v ∧ Sz 1800 a ∧ Sz 1800 b ∧ Sz 1800 m ∧ Sz 1800 l ∧ Sz 1800 g ∧ Q (.int (CN u v a (b - l) m (g - l))) h
/-- sizes and bounds of a question about a band of residues -/
structure Band (u v a b m l g : Int) : Prop where
  m0 : 0 < m
  su : Sz 1700 u
  sv : Sz 1700 v
  sa : Sz 1700 a
  sb : Sz 1700 b
  sm : Sz 1700 m
  sl : Sz 1700 l
  sg : Sz 1700 g
theorem Band.go {Γ : Gam} {u v a b m l g : Int} {h : AH} {Q : QE} {R : RE} (B : Band u v a b m l g) (q : Q (.int (CN u v a (b - l) m ((g - l) % m))) h) : sp_count_of [.int u, .int v, .int a, .int (b - l), .int m, .int 0, .int ((g - l) % m)] h Q R := by
  have e0 := Int.emod_nonneg (g - l) (show m ≠ 0 by have := B.m0; omega)
  have e1 := Int.emod_lt_of_pos (g - l) B.m0
  have s0 : Sz 1800 0 := by unfold Sz; exact Nat.pow_pos (by decide)
  refine ⟨_, _, _, _, _, _, _, rfl, B.m0, by omega, by omega, B.su.mono (by decide), B.sv.mono (by decide), B.sa.mono (by decide), (B.sb.sub B.sl).mono (by decide), B.sm.mono (by decide), s0, (B.sm.mod B.m0).mono (by decide), ?_⟩
  rw [Int.sub_zero, Int.sub_zero]
  exact q
/-- number j of those from u to v -/
def Nth (u v a b m k j n : Int) : Prop := u ≤ n ∧ n ≤ v ∧ (a * n + b) % m ≤ k ∧ CN u (n - 1) a b m k = j
theorem eqb_ints {i j : Int} : D.eqb (.int i) (.int j) = decide (i = j) := by
  show (i == j) = _
  by_cases c : i = j
  · subst c; simp
  · simp [c]
end FF
namespace FF
abbrev num (x : Int × Int) : D := .tup [.int x.1, .int x.2]
/-! ### formats -/
structure Fm (p lo hi : Int) : Prop where
  p2 : 2 ≤ p
  p100 : p ≤ 100
  l0 : -200 ≤ lo
  lh : lo ≤ hi
  h0 : hi ≤ 200
end FF
namespace FF
/-! ### those of a range, as a list -/
def rngI (u : Int) (n : Nat) : List Int := (List.range n).map fun i : Nat => u + (i : Int)
def hitL (u v a b m k : Int) : List Int := (rngI u (v - u + 1).toNat).filter fun n => decide ((a * n + b) % m ≤ k)
theorem rngI_app {u : Int} {p q : Nat} : rngI u (p + q) = rngI u p ++ rngI (u + p) q := by
  unfold rngI
  rw [List.range_add, List.map_append, List.map_map]
  congr 1
  apply List.map_congr_left
  intro i _
  show u + ((p + i : Nat) : Int) = u + p + i
  omega
theorem hit_len {u a b m k : Int} : ∀ {n : Nat}, (((rngI u n).filter fun x => decide ((a * x + b) % m ≤ k)).length : Int) = sumI n fun i => ind ((a * (u + i) + b) % m ≤ k)
  | 0 => rfl
  | n + 1 => by
    rw [rngI_app (p := n) (q := 1), List.filter_append, List.length_append]
    show _ = sumI n _ + ind ((a * (u + (n : Int)) + b) % m ≤ k)
    rw [← hit_len (n := n)]
    have : rngI (u + n) 1 = [u + n] := by simp [rngI]
    rw [this]
    unfold ind
    by_cases c : (a * (u + (n : Int)) + b) % m ≤ k
    · simp [c]
    · simp [c]
theorem hitL_len {u v a b m k : Int} : ((hitL u v a b m k).length : Int) = CN u v a b m k := hit_len
theorem Nth.get {u v a b m k j n : Int} (h : Nth u v a b m k j n) : (hitL u v a b m k)[j.toNat]? = some n := by
  obtain ⟨h1, h2, h3, h4⟩ := h
  unfold hitL
  have e : (v - u + 1).toNat = (n - 1 - u + 1).toNat + (1 + (v - n).toNat) := by omega
  have e2 : u + ((n - 1 - u + 1).toNat : Int) = n := by omega
  rw [e, rngI_app, e2, rngI_app, List.filter_append, List.filter_append]
  have one : rngI n 1 = [n] := by simp [rngI]
  have l := hitL_len (u := u) (v := n - 1) (a := a) (b := b) (m := m) (k := k)
  have l2 : (List.filter (fun n => decide ((a * n + b) % m ≤ k)) (rngI u (n - 1 - u + 1).toNat)).length = j.toNat := by
    unfold hitL at l
    omega
  rw [List.getElem?_append_right (by omega), l2, Nat.sub_self, one]
  simp [h3]
/-! ### lists of integers, compared -/
/-! ### a residue in a band -/
end FF
namespace FF
/-! ### counting, and what is first among the least -/
/-- n is the first of the least, r its value -/
def Arg (F : Int → Int) (P : Int → Prop) (u v r n : Int) : Prop := u ≤ n ∧ n ≤ v ∧ P n ∧ F n = r ∧ (∀ x, u ≤ x → x ≤ v → P x → r ≤ F x) ∧ ∀ x, u ≤ x → x < n → P x → r < F x
theorem Arg.uniq {F : Int → Int} {P : Int → Prop} {u v r n r' n' : Int} (h : Arg F P u v r n) (h' : Arg F P u v r' n') : r = r' ∧ n = n' := by
  obtain ⟨a1, a2, a3, a4, a5, a6⟩ := h
  obtain ⟨b1, b2, b3, b4, b5, b6⟩ := h'
  have h1 := a5 n' b1 b2 b3
  have h2 := b5 n a1 a2 a3
  have e : r = r' := by omega
  refine ⟨e, ?_⟩
  rcases Int.lt_trichotomy n n' with z | z | z
  · have := b6 n a1 z a3; omega
  · exact z
  · have := a6 n' b1 z b3; omega
end FF
namespace FF
def res (a b m : Int) (x : Int) : Int := (a * x + b) % m
end FF
namespace FF
/-- the distance around the circle -/
def cd (m r g : Int) : Int := min (((r - g).natAbs : Nat) : Int) (m - (((r - g).natAbs : Nat) : Int))
end FF
namespace FF
/-! ### pieces of one unit -/
abbrev Qd : Type := Int × Int × Int × Int
end FF
namespace FF
/-- a walk over a list, by the place -/
theorem forL_ix {Γ : Gam} {b : Ss} {bind : D → Env → (Env → Prop) → Prop} {I : Nat → Env → AH → Prop} {P : Post} : ∀ (ds : List D) {j : Nat} {σ : Env} {h : AH},
    (∀ i d, ds[i]? = some d → ∀ σ h, I (j + i) σ h → ∀ P' : Post, (∀ σ' h', I (j + i + 1) σ' h' → P'.nx σ' h') → (∀ σ' h', I (j + i + 1) σ' h' → P'.ct σ' h') → P'.rt = P.rt → P'.R = P.R → bind d σ fun σ' => wpSs Γ b σ' h P') →
    I j σ h → (∀ σ h, I (j + ds.length) σ h → P.nx σ h) → forL (fun σ h P => wpSs Γ b σ h P) bind ds σ h P
  | [], _, σ, h, _, i, k => k σ h i
  | d :: r, j, σ, h, hs, i, k => by
    have rest : ∀ σ' h', I (j + 0 + 1) σ' h' → forL (fun σ h P => wpSs Γ b σ h P) bind r σ' h' P := fun σ' h' i' => forL_ix r (j := j + 0 + 1) (fun a d hd => by
      have := hs (a + 1) d (by rw [List.getElem?_cons_succ]; exact hd)
      rw [show j + (a + 1) = j + 0 + 1 + a by omega] at this
      exact this) i' fun σ h i => k σ h (by rw [List.length_cons, show j + (r.length + 1) = j + 0 + 1 + r.length by omega]; exact i)
    exact hs 0 d rfl σ h i _ rest rest rfl rfl
theorem rangeL_get {u : Int} {n i : Nat} {d : D} (h : (rangeL u n)[i]? = some d) : d = .int (u + i) ∧ i < n := by
  unfold rangeL at h
  rw [List.getElem?_map] at h
  by_cases c : i < n
  · rw [List.getElem?_range c] at h
    cases h
    exact ⟨rfl, c⟩
  · rw [List.getElem?_eq_none (by rw [List.length_range]; omega)] at h
    cases h
theorem set_int {Γ : Gam} {i : Nat} {n : Int} {S : Ss} {σ : Env} {h : AH} {P : Post} : wpSs Γ (.cons (.set i (.int n)) S) σ h P = wpSs Γ S (σ.put i (.val (.int n))) h P := by
  simp only [wpSs, wpS, wpE]
/-- a specification goes with what is wanted -/
abbrev MoS (S : Spec) : Prop := ∀ ds h Q Q' R R', (∀ d h, Q d h → Q' d h) → (∀ x h, R x h → R' x h) → S ds h Q R → S ds h Q' R'
end FF
namespace FF
abbrev PBd (Q : QE) (R : RE) : Post := ⟨fun _ h => Q .non h, Q, fun _ _ => False, fun x _ h => R x h⟩
end FF
namespace FF
def k_reduced_1 : Ss := .cons (.setP 0 1 (.bin .fdiv (.var 0) (.int 10)) (.bin .add (.var 1) (.int 1))) .nil
def k_reduced_2 : Ss := .cons (.ret (.tup (.cons (.var 0) (.cons (.var 1) .nil)))) .nil
def k_reduced_3 : Ss := .cons (.whl (.cmp .eq (.bin .mod (.var 0) (.int 10)) (.int 0)) k_reduced_1) k_reduced_2
def k_reduced_4 : Ss := .cons (.ite (.cmp .eq (.var 0) (.int 0)) (.cons (.ret (.tup (.cons (.int 0) (.cons (.int 0) .nil)))) .nil) .nil) k_reduced_3
def ir_reduced : Fd := ⟨2, 2, k_reduced_4⟩
def k_figures_end_1 : Ss := .cons (.set 3 (.bin .add (.var 3) (.int 1))) .nil
def k_figures_end_2 : Ss := .cons (.ret (.var 3)) .nil
def k_figures_end_3 : Ss := .cons (.ite (.cmp .eq (.var 3) (.var 1)) (.cons (.raise 8 (.var 1)) .nil) .nil) k_figures_end_2
def k_figures_end_4 : Ss := .cons (.whl (.ands (.cons (.cmp .lt (.var 3) (.bi .len (.cons (.var 0) .nil))) (.cons (.cmp .lt (.bin .sub (.var 3) (.var 1)) (.var 2)) (.cons (.sin (.sidx (.var 0) (.var 3)) (.gcon 10 (.str [48, 49, 50, 51, 52, 53, 54, 55, 56, 57]))) .nil)))) k_figures_end_1) k_figures_end_3
def k_figures_end_5 : Ss := .cons (.set 3 (.var 1)) k_figures_end_4
def ir_figures_end : Fd := ⟨3, 4, k_figures_end_5⟩
def k_last_part_1 : Ss := .cons (.ret (.tup (.cons (.ite (.cmp .eq (.var 2) (.bin .add (.var 1) (.int 1))) (.var 4) (.bin .sub (.int 0) (.var 4))) (.cons (.var 3) .nil)))) .nil
def k_last_part_2 : Ss := .cons (.set 4 (.intt (.ssl (.var 0) (.var 2) (.var 3)))) k_last_part_1
def k_last_part_3 : Ss := .cons (.set 3 (.call 127 (.cons (.var 0) (.cons (.var 2) (.cons (.gcon 11 (.int 3)) .nil))) [])) k_last_part_2
def k_last_part_4 : Ss := .cons (.set 2 (.bin .add (.bin .add (.var 1) (.int 1)) (.bi .int (.cons (.cmp .eq (.ssl (.var 0) (.bin .add (.var 1) (.int 1)) (.bin .add (.var 1) (.int 2))) (.str [45])) .nil)))) k_last_part_3
def k_last_part_5 : Ss := .cons (.ite (.cmp .ne (.ssl (.var 0) (.var 1) (.bin .add (.var 1) (.int 1))) (.str [101])) (.cons (.ret (.tup (.cons (.int 0) (.cons (.var 1) .nil)))) .nil) .nil) k_last_part_4
def ir_last_part : Fd := ⟨2, 5, k_last_part_5⟩
def k_read_decimal_1 : Ss := .cons (.ret (.call 129 (.cons (.ite (.cmp .eq (.var 1) (.int 0)) (.var 6) (.bin .sub (.int 0) (.var 6))) (.cons (.bin .sub (.var 4) (.bi .max (.cons (.int 0) (.cons (.bin .sub (.bin .sub (.var 3) (.var 2)) (.int 1)) .nil)))) .nil)) [])) .nil
def k_read_decimal_2 : Ss := .cons (.set 6 (.intt (.bin .add (.ssl (.var 0) (.var 1) (.var 2)) (.ssl (.var 0) (.bin .add (.var 2) (.int 1)) (.var 3))))) k_read_decimal_1
def k_read_decimal_3 : Ss := .cons (.ite (.cmp .lt (.var 5) (.bi .len (.cons (.var 0) .nil))) (.cons (.raise 8 (.var 5)) .nil) .nil) k_read_decimal_2
def k_read_decimal_4 : Ss := .cons (.setT (.cons (.name 4) (.cons (.name 5) .nil)) (.call 128 (.cons (.var 0) (.cons (.var 3) .nil)) [])) k_read_decimal_3
def k_read_decimal_5 : Ss := .cons (.ite (.ands (.cons (.cmp .lt (.bin .sub (.var 3) (.var 1)) (.gcon 12 (.int 100))) (.cons (.cmp .eq (.ssl (.var 0) (.var 3) (.bin .add (.var 3) (.int 1))) (.str [46])) .nil))) (.cons (.set 3 (.call 127 (.cons (.var 0) (.cons (.bin .add (.var 3) (.int 1)) (.cons (.bin .add (.bin .sub (.gcon 12 (.int 100)) (.var 3)) (.var 1)) .nil))) [])) .nil) .nil) k_read_decimal_4
def k_read_decimal_6 : Ss := .cons (.set 3 (.var 2)) k_read_decimal_5
def k_read_decimal_7 : Ss := .cons (.set 2 (.call 127 (.cons (.var 0) (.cons (.var 1) (.cons (.gcon 12 (.int 100)) .nil))) [])) k_read_decimal_6
def k_read_decimal_8 : Ss := .cons (.set 1 (.bi .int (.cons (.cmp .eq (.sslT (.var 0) (.int 1)) (.str [45])) .nil))) k_read_decimal_7
def k_read_decimal_9 : Ss := .cons (.ite (.not (.isin (.var 0) .str)) (.cons (.raise 8 (.neg (.int 1))) .nil) .nil) k_read_decimal_8
def ir_read_decimal : Fd := ⟨1, 7, k_read_decimal_9⟩
end FF
namespace FF
/-! ### texts of decimals: figures -/
def dgB (c : Nat) : Bool := decide (48 ≤ c ∧ c < 58)
/-- how many figures stand ahead -/
def run : List Nat → Nat
  | [] => 0
  | c :: r => if dgB c = true then run r + 1 else 0
theorem run_le : ∀ {l : List Nat}, run l ≤ l.length
  | [] => Nat.le_refl _
  | c :: r => by
    unfold run
    have := run_le (l := r)
    rw [List.length_cons]
    split <;> omega
theorem run_gt : ∀ {l : List Nat} {j : Nat}, j ≤ run l → (j < run l ↔ j < l.length ∧ dgB (l.getD j 0) = true)
  | [], j, h => by
    have : run [] = 0 := rfl
    rw [this]
    simp
  | c :: r, j, h => by
    unfold run at h ⊢
    by_cases d : dgB c = true
    · rw [if_pos d] at h ⊢
      rw [List.length_cons]
      cases j with
      | zero => simp [d]
      | succ j =>
        have ih := run_gt (l := r) (j := j) (by omega)
        rw [List.getD_cons_succ]
        constructor
        · intro z
          have := ih.mp (by omega)
          exact ⟨by omega, this.2⟩
        · intro z
          have := ih.mpr ⟨by omega, z.2⟩
          omega
    · rw [if_neg d] at h ⊢
      have : j = 0 := by omega
      subst this
      simp [d]
theorem run_take : ∀ {l : List Nat} {k : Nat}, k ≤ run l → digS (l.take k) = true
  | [], k, _ => by rw [List.take_nil]; rfl
  | c :: r, 0, _ => rfl
  | c :: r, k + 1, h => by
    unfold run at h
    by_cases d : dgB c = true
    · rw [if_pos d] at h
      have ih := run_take (l := r) (k := k) (by omega)
      unfold digS at ih ⊢
      rw [List.take_succ_cons, List.all_cons, ih, Bool.and_true]
      exact d
    · rw [if_neg d] at h
      omega
/-- figures, then something else -/
theorem run_app : ∀ {l t : List Nat}, digS l = true → (t = [] ∨ dgB (t.getD 0 0) = false) → run (l ++ t) = l.length
  | [], [], _, _ => rfl
  | [], c :: t, _, h => by
    have : dgB c = false := by
      rcases h with z | z
      · cases z
      · exact z
    show run (c :: t) = 0
    unfold run
    rw [this]
    rfl
  | c :: r, t, hd, h => by
    unfold digS at hd
    rw [List.all_cons, Bool.and_eq_true] at hd
    show run (c :: (r ++ t)) = _
    unfold run
    rw [if_pos (show dgB c = true from hd.1), run_app (l := r) hd.2 h, List.length_cons]
/-- where figures end -/
def fe (s : List Nat) (a m : Nat) : Nat := a + min m (run (s.drop a))
theorem fig_mem {c : Nat} : decide (c ∈ ([48, 49, 50, 51, 52, 53, 54, 55, 56, 57] : List Nat)) = dgB c := by
  unfold dgB
  simp only [List.mem_cons, List.not_mem_nil, or_false]
  congr 1
  exact propext ⟨fun h => by omega, fun h => by omega⟩
def sp_figures_end : Spec := fun ds h Q R => ∃ (s : List Nat) (a m : Nat), ds = [.str s, .int a, .int m] ∧ s.length ≤ 10000 ∧ a ≤ 10000 ∧ m ≤ 10000 ∧ (fe s a m = a → R ⟨8, .int a⟩ h) ∧ (fe s a m ≠ a → Q (.int (fe s a m)) h)
theorem b_figures_end {Γ : Gam} : BodyOk Γ ir_figures_end sp_figures_end := by
  rintro ds h Q R ⟨s, a, m, rfl, sl, al, ml, q1, q2⟩
  refine ⟨rfl, ?_⟩
  show wpSs Γ ir_figures_end.body [.val (.str s), .val (.int a), .val (.int m), .un] h _
  have SLe : SL = 16777216 := rfl
  simp only [ir_figures_end, k_figures_end_5, wpSs, wpS, wpE, wpEs, wpAnd, wpOr, wpI, wpF, wpT, wpH, Env.at, Env.put, Env.wipe, Env.nox, Slot.nox, wBin, binI, wCmp, cmpI, wBi, isTy, asL, asLT, bindT, bindTs, intsOf, boolsOf, atInt, ixL0, ixL1, ixL2, List.getElem?_cons_zero, List.getElem?_cons_succ, List.nil_append, List.cons_append, List.append_nil, if_true, ite_true]
  simp only [k_figures_end_4, wpSs, wpS, wpE, wpEs, wpAnd, wpOr, wpI, wpF, wpT, wpH, Env.at, Env.put, Env.wipe, Env.nox, Slot.nox, wBin, binI, wCmp, cmpI, wBi, isTy, asL, asLT, bindT, bindTs, intsOf, boolsOf, atInt, ixL0, ixL1, ixL2, List.getElem?_cons_zero, List.getElem?_cons_succ, List.nil_append, List.cons_append, List.append_nil, if_true, ite_true]
  refine ⟨fun k σ h' => ∃ j : Nat, σ = [.val (.str s), .val (.int a), .val (.int m), .val (.int ((a + j : Nat) : Int))] ∧ h' = h ∧ j ≤ min m (run (s.drop a)) ∧ k = min m (run (s.drop a)) - j, ⟨_, 0, rfl, rfl, Nat.zero_le _, rfl⟩, ?_⟩
  rintro k σ h' ⟨j, rfl, rfl, jl, ek⟩
  have rl := run_le (l := s.drop a)
  rw [List.length_drop] at rl
  have g := run_gt (l := s.drop a) (j := j) (by omega)
  rw [List.length_drop] at g
  have gd : (s.drop a).getD j 0 = s.getD (a + j) 0 := by
    rw [List.getD_eq_getElem?_getD, List.getElem?_drop, ← List.getD_eq_getElem?_getD]
  rw [gd] at g
  have stop : ¬ j < min m (run (s.drop a)) → wpSs Γ k_figures_end_3 [.val (.str s), .val (.int a), .val (.int m), .val (.int ((a + j : Nat) : Int))] h' (PBd Q R) := fun n => by
    have e : fe s a m = a + j := by unfold fe; omega
    rw [e] at q1 q2
    simp only [k_figures_end_3, wpSs, wpS, wpE, wpEs, wpAnd, wpOr, wpI, wpF, wpT, wpH, Env.at, Env.put, Env.wipe, Env.nox, Slot.nox, wBin, binI, wCmp, cmpI, wBi, isTy, asL, asLT, bindT, bindTs, intsOf, boolsOf, atInt, ixL0, ixL1, ixL2, List.getElem?_cons_zero, List.getElem?_cons_succ, List.nil_append, List.cons_append, List.append_nil, if_true, ite_true]
    refine ⟨ok_int, ?_⟩
    rw [eqb_ints]
    by_cases c : j = 0
    · rw [if_pos (decide_eq_true (show ((a + j : Nat) : Int) = a by omega))]
      exact q1 (by omega)
    · rw [if_neg (by rw [decide_eq_true_iff]; omega)]
      simp only [k_figures_end_2, wpSs, wpS, wpE, wpEs, wpAnd, wpOr, wpI, wpF, wpT, wpH, Env.at, Env.put, Env.wipe, Env.nox, Slot.nox, wBin, binI, wCmp, cmpI, wBi, isTy, asL, asLT, bindT, bindTs, intsOf, boolsOf, atInt, ixL0, ixL1, ixL2, List.getElem?_cons_zero, List.getElem?_cons_succ, List.nil_append, List.cons_append, List.append_nil, if_true, ite_true]
      exact q2 (by omega)
  simp only [wpSs, wpS, wpE, wpEs, wpAnd, wpOr, wpI, wpF, wpT, wpH, Env.at, Env.put, Env.wipe, Env.nox, Slot.nox, wBin, binI, wCmp, cmpI, wBi, isTy, asL, asLT, bindT, bindTs, intsOf, boolsOf, atInt, ixL0, ixL1, ixL2, List.getElem?_cons_zero, List.getElem?_cons_succ, List.nil_append, List.cons_append, List.append_nil, if_true, ite_true]
  refine ⟨by omega, ?_⟩
  by_cases c1 : a + j < s.length
  · rw [if_pos (decide_eq_true (show ((a + j : Nat) : Int) < (s.length : Int) by omega))]
    by_cases c2 : j < m
    · rw [if_pos (decide_eq_true (show ((a + j : Nat) : Int) - a < (m : Int) by omega))]
      refine ⟨⟨by omega, by omega, by omega⟩, ?_⟩
      rw [show ((a + j : Nat) : Int).toNat = a + j by omega, fig_mem]
      by_cases c3 : dgB (s.getD (a + j) 0) = true
      · rw [if_pos c3]
        have lt := g.mpr ⟨by omega, c3⟩
        simp only [k_figures_end_1, wpSs, wpS, wpE, wpEs, wpAnd, wpOr, wpI, wpF, wpT, wpH, Env.at, Env.put, Env.wipe, Env.nox, Slot.nox, wBin, binI, wCmp, cmpI, wBi, isTy, asL, asLT, bindT, bindTs, intsOf, boolsOf, atInt, ixL0, ixL1, ixL2, List.getElem?_cons_zero, List.getElem?_cons_succ, List.nil_append, List.cons_append, List.append_nil, if_true, ite_true]
        refine ⟨_, ?_, j + 1, ?_, trivial, by omega, rfl⟩
        · omega
        · rw [show ((a + (j + 1) : Nat) : Int) = ((a + j : Nat) : Int) + 1 by omega]
      · rw [if_neg c3]
        exact stop fun z => c3 (g.mp (by omega)).2
    · rw [if_neg (by rw [decide_eq_true_iff]; omega)]
      exact stop (by omega)
  · rw [if_neg (by rw [decide_eq_true_iff]; omega)]
    exact stop fun z => by
      have := (g.mp (by omega)).1
      omega
end FF
namespace FF
/-! ### texts of decimals: what they tell -/
theorem str_eqbT {x y : List Nat} : D.eqb (.str x) (.str y) = decide (x = y) := by
  show (x == y) = _
  by_cases c : x = y
  · subst c
    simp
  · rw [decide_eq_false c]
    simpa using c
/-- a text's signs -/
def CpS (s : List Nat) : Prop := s.all (· < 1114112) = true
theorem CpS.cut {s : List Nat} (h : CpS s) (a b : Nat) : CpS ((s.drop a).take b) := List.all_eq_true.mpr fun c m => List.all_eq_true.mp h c (List.mem_of_mem_drop (List.mem_of_mem_take m))
theorem CpS.to {s : List Nat} (h : CpS s) (b : Nat) : CpS (s.take b) := List.all_eq_true.mpr fun c m => List.all_eq_true.mp h c (List.mem_of_mem_take m)
theorem CpS.app {s t : List Nat} (h : CpS s) (h' : CpS t) : CpS (s ++ t) := by unfold CpS at *; rw [List.all_append, h, h']; rfl
theorem CpS.dig {s : List Nat} (h : digS s = true) : CpS s := List.all_eq_true.mpr fun c m => by
  have := of_decide_eq_true (List.all_eq_true.mp h c m)
  exact decide_eq_true (by omega)
theorem str_okT {x y : List Nat} (hx : CpS x) (hy : CpS y) : eqOk (.str x) (.str y) := ⟨hx, hy⟩
theorem slP_nat {n a : Nat} : slP n (a : Int) = min a n := by
  unfold slP
  rw [if_pos (by omega), Int.toNat_natCast]
theorem cut_nat {s : List Nat} {a b : Nat} : (s.drop (slP s.length (a : Int))).take (slP s.length (b : Int) - slP s.length (a : Int)) = (s.drop a).take (b - a) := by
  rw [slP_nat, slP_nat]
  by_cases c : a ≤ s.length
  · rw [Nat.min_eq_left c]
    by_cases d : b ≤ s.length
    · rw [Nat.min_eq_left d]
    · rw [Nat.min_eq_right (by omega), List.take_of_length_le (by rw [List.length_drop]; omega), List.take_of_length_le (by rw [List.length_drop]; omega)]
  · rw [List.drop_of_length_le (show s.length ≤ min a s.length by omega), List.drop_of_length_le (show s.length ≤ a by omega), List.take_nil, List.take_nil]
theorem intZ_dig {l : List Nat} (h : l ≠ []) (d : digS l = true) : intZ l = some (decN l : Int) := by
  unfold intZ
  split
  · unfold digS at d
    rw [List.all_cons] at d
    have : decide (48 ≤ 45 ∧ 45 < 58) = false := by decide
    rw [this] at d
    cases d
  · rw [if_pos ⟨h, d⟩]
theorem intZ_neg {l : List Nat} (h : l ≠ []) (d : digS l = true) : intZ (45 :: l) = some (-(decN l : Int)) := by
  show (if l ≠ [] ∧ digS l = true then some (-(decN l : Int)) else none) = _
  rw [if_pos ⟨h, d⟩]
def lpB (s : List Nat) (a : Nat) : Nat := a + 1 + (if (s.drop (a + 1)).take 1 = [45] then 1 else 0)
def lpT (s : List Nat) (a : Nat) : (Int × Nat) ⊕ Nat :=
  if (s.drop a).take 1 = [101] then (if fe s (lpB s a) 3 = lpB s a then .inr (lpB s a) else .inl ((if lpB s a = a + 1 then 1 else -1) * (decN ((s.drop (lpB s a)).take (fe s (lpB s a) 3 - lpB s a)) : Int), fe s (lpB s a) 3)) else .inl (0, a)
theorem fe_dig {s : List Nat} {a m : Nat} (h : fe s a m ≠ a) : (s.drop a).take (fe s a m - a) ≠ [] ∧ digS ((s.drop a).take (fe s a m - a)) = true ∧ ((s.drop a).take (fe s a m - a)).length ≤ m := by
  have rl := run_le (l := s.drop a)
  rw [List.length_drop] at rl
  have e : fe s a m - a = min m (run (s.drop a)) := by unfold fe; omega
  have e0 : 0 < min m (run (s.drop a)) := by unfold fe at h; omega
  rw [e]
  refine ⟨fun z => ?_, run_take (by omega), by rw [List.length_take]; omega⟩
  have := congrArg List.length z
  rw [List.length_take, List.length_drop, List.length_nil] at this
  omega
theorem fe_le {s : List Nat} {a m : Nat} : a ≤ fe s a m ∧ fe s a m ≤ a + m := by unfold fe; omega
def sp_last_part : Spec := fun ds h Q R => ∃ (s : List Nat) (a : Nat), ds = [.str s, .int a] ∧ s.length ≤ 9000 ∧ CpS s ∧ a ≤ 9000 ∧ (∀ k z, lpT s a = .inl (k, z) → Q (.tup [.int k, .int (z : Nat)]) h) ∧ (∀ e : Nat, lpT s a = .inr e → R ⟨8, .int e⟩ h)
theorem b_last_part {Γ : Gam} (g127 : Γ.fn 127 = sp_figures_end) : BodyOk Γ ir_last_part sp_last_part := by
  rintro ds h Q R ⟨s, a, rfl, sl, sc, al, q1, q2⟩
  refine ⟨rfl, ?_⟩
  show wpSs Γ ir_last_part.body [.val (.str s), .val (.int a), .un, .un, .un] h _
  have SLe : SL = 16777216 := rfl
  unfold lpT at q1 q2
  have ea : (a : Int) + 1 = ((a + 1 : Nat) : Int) := by omega
  have ea2 : (a : Int) + 2 = ((a + 2 : Nat) : Int) := by omega
  simp only [ir_last_part, k_last_part_5, wpSs, wpS, wpE, wpEs, wpAnd, wpOr, wpI, wpF, wpT, wpH, Env.at, Env.put, Env.wipe, Env.nox, Slot.nox, wBin, binI, wCmp, cmpI, wBi, isTy, asL, asLT, bindT, bindTs, intsOf, boolsOf, atInt, ixL0, ixL1, ixL2, List.getElem?_cons_zero, List.getElem?_cons_succ, List.nil_append, List.cons_append, List.append_nil, if_true, ite_true]
  rw [ea, cut_nat, show a + 1 - a = 1 by omega]
  refine ⟨by omega, str_okT (sc.cut _ _) rfl, ?_⟩
  rw [str_eqbT]
  by_cases c : (s.drop a).take 1 = [101]
  · rw [decide_eq_true c]
    rw [if_pos c] at q1 q2
    simp only [Bool.not_true, Bool.false_eq_true, if_false]
    simp only [k_last_part_4, wpSs, wpS, wpE, wpEs, wpAnd, wpOr, wpI, wpF, wpT, wpH, Env.at, Env.put, Env.wipe, Env.nox, Slot.nox, wBin, binI, wCmp, cmpI, wBi, isTy, asL, asLT, bindT, bindTs, intsOf, boolsOf, atInt, ixL0, ixL1, ixL2, List.getElem?_cons_zero, List.getElem?_cons_succ, List.nil_append, List.cons_append, List.append_nil, if_true, ite_true]
    rw [ea, ea2, cut_nat, show a + 2 - (a + 1) = 1 by omega]
    refine ⟨by omega, str_okT (sc.cut _ _) rfl, ?_⟩
    rw [str_eqbT]
    have eb : ((a + 1 : Nat) : Int) + (if decide ((s.drop (a + 1)).take 1 = [45]) = true then 1 else 0) = ((lpB s a : Nat) : Int) := by
      unfold lpB
      by_cases d : (s.drop (a + 1)).take 1 = [45]
      · rw [decide_eq_true d, if_pos rfl, if_pos d]; omega
      · rw [decide_eq_false d, if_neg (by simp), if_neg d]; omega
    rw [eb]
    have bl : lpB s a ≤ a + 2 := by unfold lpB; split <;> omega
    have b1 : a + 1 ≤ lpB s a := by unfold lpB; omega
    generalize lpB s a = b at *
    simp only [k_last_part_3, wpSs, wpS, wpE, wpEs, wpAnd, wpOr, wpI, wpF, wpT, wpH, Env.at, Env.put, Env.wipe, Env.nox, Slot.nox, wBin, binI, wCmp, cmpI, wBi, isTy, asL, asLT, bindT, bindTs, intsOf, boolsOf, atInt, ixL0, ixL1, ixL2, List.getElem?_cons_zero, List.getElem?_cons_succ, List.nil_append, List.cons_append, List.append_nil, if_true, ite_true, g127]
    refine ⟨s, b, 3, rfl, by omega, by omega, by decide, fun z => ?_, fun z => ?_⟩
    · rw [if_pos z] at q2
      exact q2 b rfl
    · rw [if_neg z] at q1
      obtain ⟨f1, f2, f3⟩ := fe_dig z
      obtain ⟨f4, f5⟩ := fe_le (s := s) (a := b) (m := 3)
      generalize hE : fe s b 3 = e at *
      simp only [k_last_part_2, wpSs, wpS, wpE, wpEs, wpAnd, wpOr, wpI, wpF, wpT, wpH, Env.at, Env.put, Env.wipe, Env.nox, Slot.nox, wBin, binI, wCmp, cmpI, wBi, isTy, asL, asLT, bindT, bindTs, intsOf, boolsOf, atInt, ixL0, ixL1, ixL2, List.getElem?_cons_zero, List.getElem?_cons_succ, List.nil_append, List.cons_append, List.append_nil, if_true, ite_true]
      rw [cut_nat]
      refine ⟨by omega, ?_⟩
      rw [intZ_dig f1 f2]
      refine ⟨by omega, ?_⟩
      simp only [k_last_part_1, wpSs, wpS, wpE, wpEs, wpAnd, wpOr, wpI, wpF, wpT, wpH, Env.at, Env.put, Env.wipe, Env.nox, Slot.nox, wBin, binI, wCmp, cmpI, wBi, isTy, asL, asLT, bindT, bindTs, intsOf, boolsOf, atInt, ixL0, ixL1, ixL2, List.getElem?_cons_zero, List.getElem?_cons_succ, List.nil_append, List.cons_append, List.append_nil, if_true, ite_true]
      refine ⟨ok_int, ?_⟩
      rw [ea, eqb_ints]
      have q := q1 _ _ rfl
      by_cases d : b = a + 1
      · rw [if_pos (decide_eq_true (show (b : Int) = ((a + 1 : Nat) : Int) by omega))]
        rw [if_pos d, Int.one_mul] at q
        exact ⟨(show 2 ≤ SL by decide), q⟩
      · rw [if_neg (by rw [decide_eq_true_iff]; omega)]
        rw [if_neg d, show (-1 : Int) * (decN ((s.drop b).take (e - b)) : Int) = 0 - (decN ((s.drop b).take (e - b)) : Int) by omega] at q
        exact ⟨(show 2 ≤ SL by decide), q⟩
  · rw [decide_eq_false c]
    rw [if_neg c] at q1
    simp only [Bool.not_false, if_true]
    exact ⟨(show 2 ≤ SL by decide), q1 0 a rfl⟩
/-- the reduced decimal -/
def RedD (n k : Int) (r : Int × Int) : Prop := (n = 0 ∧ r = (0, 0)) ∨ (n ≠ 0 ∧ ∃ j : Nat, n = r.1 * 10 ^ j ∧ r.2 = k + j ∧ r.1 % 10 ≠ 0)
theorem ten_pos (j : Nat) : (0 : Int) < 10 ^ j := Int.pow_pos (by decide)
theorem RedD.uniq {n k : Int} {r r' : Int × Int} (h : RedD n k r) (h' : RedD n k r') : r = r' := by
  rcases h with ⟨h0, rfl⟩ | ⟨h0, j, e1, e2, e3⟩
  · rcases h' with ⟨_, rfl⟩ | ⟨h0', _⟩
    · rfl
    · exact absurd h0 h0'
  · rcases h' with ⟨h0', _⟩ | ⟨_, j', f1, f2, f3⟩
    · exact absurd h0' h0
    · have key : ∀ {a b : Int} {i j : Nat}, i < j → a * 10 ^ i = b * 10 ^ j → a % 10 = 0 := fun {a b i j} l e => by
        obtain ⟨d, rfl⟩ := Nat.exists_eq_add_of_lt l
        have : a = b * 10 ^ (d + 1) := by
          have p := ten_pos i
          refine Int.eq_of_mul_eq_mul_right (show (10 : Int) ^ i ≠ 0 by omega) ?_
          rw [e, show i + d + 1 = (d + 1) + i by omega, Int.pow_add, Int.mul_assoc]
        rw [this, Int.pow_succ, ← Int.mul_assoc]
        exact Int.mul_emod_left ..
      have ej : j = j' := by
        rcases Nat.lt_trichotomy j j' with z | z | z
        · exact absurd (key z (e1.symm.trans f1)) e3
        · exact z
        · exact absurd (key z (f1.symm.trans e1)) f3
      subst ej
      have p := ten_pos j
      have : r.1 = r'.1 := Int.eq_of_mul_eq_mul_right (show (10 : Int) ^ j ≠ 0 by omega) (e1.symm.trans f1)
      exact Prod.ext this (by rw [e2, f2])
theorem RedD.loop {n k c : Int} {j : Nat} (h0 : n ≠ 0) (e : n = c * 10 ^ j) (d : c % 10 ≠ 0) : RedD n k (c, k + j) := .inr ⟨h0, j, e, rfl, d⟩
def sp_reduced : Spec := fun ds h Q _ => ∃ n k, ds = [.int n, .int k] ∧ ∀ r, RedD n k r → Q (num r) h
theorem b_reduced {Γ : Gam} : BodyOk Γ ir_reduced sp_reduced := by
  rintro ds h Q R ⟨n, k, rfl, q⟩
  refine ⟨rfl, ?_⟩
  show wpSs Γ ir_reduced.body [.val (.int n), .val (.int k)] h _
  have t10 : (0 : Int) < 10 := by decide
  simp only [ir_reduced, k_reduced_4, wpSs, wpS, wpE, wpEs, wpAnd, wpOr, wpI, wpF, wpT, wpH, Env.at, Env.put, Env.wipe, Env.nox, Slot.nox, wBin, binI, wCmp, cmpI, wBi, isTy, asL, asLT, bindT, bindTs, intsOf, boolsOf, atInt, ixL0, ixL1, ixL2, List.getElem?_cons_zero, List.getElem?_cons_succ, List.nil_append, List.cons_append, List.append_nil, if_true, ite_true]
  refine ⟨ok_int, ?_⟩
  rw [eqb_ints]
  by_cases c : n = 0
  · rw [if_pos (decide_eq_true c)]
    exact ⟨(show 2 ≤ SL by decide), q (0, 0) (.inl ⟨c, rfl⟩)⟩
  rw [if_neg (by rw [decide_eq_true_iff]; exact c)]
  simp only [k_reduced_3, wpSs, wpS, wpE, wpEs, wpAnd, wpOr, wpI, wpF, wpT, wpH, Env.at, Env.put, Env.wipe, Env.nox, Slot.nox, wBin, binI, wCmp, cmpI, wBi, isTy, asL, asLT, bindT, bindTs, intsOf, boolsOf, atInt, ixL0, ixL1, ixL2, List.getElem?_cons_zero, List.getElem?_cons_succ, List.nil_append, List.cons_append, List.append_nil, if_true, ite_true]
  refine ⟨fun m σ h' => ∃ (x : Int) (j : Nat), σ = [.val (.int x), .val (.int (k + j))] ∧ h' = h ∧ n = x * 10 ^ j ∧ m = x.natAbs, ⟨_, n, 0, by rw [show k + ((0 : Nat) : Int) = k by omega], rfl, by rw [Int.pow_zero, Int.mul_one], rfl⟩, ?_⟩
  rintro m σ h' ⟨x, j, rfl, rfl, e, rfl⟩
  simp only [wpSs, wpS, wpE, wpEs, wpAnd, wpOr, wpI, wpF, wpT, wpH, Env.at, Env.put, Env.wipe, Env.nox, Slot.nox, wBin, binI, wCmp, cmpI, wBi, isTy, asL, asLT, bindT, bindTs, intsOf, boolsOf, atInt, ixL0, ixL1, ixL2, List.getElem?_cons_zero, List.getElem?_cons_succ, List.nil_append, List.cons_append, List.append_nil, if_true, ite_true]
  refine ⟨by decide, ok_int, ?_⟩
  rw [eqb_ints, fmod_pos t10]
  have x0 : x ≠ 0 := fun z => by rw [z, Int.zero_mul] at e; exact c e
  by_cases d : x % 10 = 0
  · rw [if_pos (decide_eq_true d)]
    simp only [k_reduced_1, wpSs, wpS, wpE, wpEs, wpAnd, wpOr, wpI, wpF, wpT, wpH, Env.at, Env.put, Env.wipe, Env.nox, Slot.nox, wBin, binI, wCmp, cmpI, wBi, isTy, asL, asLT, bindT, bindTs, intsOf, boolsOf, atInt, ixL0, ixL1, ixL2, List.getElem?_cons_zero, List.getElem?_cons_succ, List.nil_append, List.cons_append, List.append_nil, if_true, ite_true, fdiv_pos t10]
    have dv : x = x / 10 * 10 := by
      have := Int.ediv_mul_add_emod x 10
      omega
    refine ⟨⟨by decide, by decide⟩, _, ?_, x / 10, j + 1, ?_, trivial, ?_, rfl⟩
    · omega
    · rw [show k + ((j + 1 : Nat) : Int) = k + (j : Int) + 1 by omega]
    · rw [e, Int.pow_succ]
      conv => lhs; rw [dv]
      ac_rfl
  · rw [if_neg (by rw [decide_eq_true_iff]; exact d)]
    simp only [k_reduced_2, wpSs, wpS, wpE, wpEs, wpAnd, wpOr, wpI, wpF, wpT, wpH, Env.at, Env.put, Env.wipe, Env.nox, Slot.nox, wBin, binI, wCmp, cmpI, wBi, isTy, asL, asLT, bindT, bindTs, intsOf, boolsOf, atInt, ixL0, ixL1, ixL2, List.getElem?_cons_zero, List.getElem?_cons_succ, List.nil_append, List.cons_append, List.append_nil, if_true, ite_true]
    exact ⟨(show 2 ≤ SL by decide), q (x, k + j) (RedD.loop c e d)⟩
def rdB (s : List Nat) : Nat := if s.take 1 = [45] then 1 else 0
def dotB (s : List Nat) (p : Nat) : Bool := decide (p - rdB s < 100) && decide ((s.drop p).take 1 = [46])
def rdQ (s : List Nat) (p e : Nat) : (Int × Int) ⊕ Nat := match lpT s e with
  | .inr a => .inr a
  | .inl (k, z) => if z < s.length then .inr z else .inl ((if rdB s = 0 then 1 else -1) * (decN ((s.drop (rdB s)).take (p - rdB s) ++ (s.drop (p + 1)).take (e - (p + 1))) : Int), k - max 0 ((e : Int) - p - 1))
def rdP (s : List Nat) (p : Nat) : (Int × Int) ⊕ Nat := if dotB s p = true then (if fe s (p + 1) (100 + rdB s - p) = p + 1 then .inr (p + 1) else rdQ s p (fe s (p + 1) (100 + rdB s - p))) else rdQ s p p
def rdT (s : List Nat) : (Int × Int) ⊕ Nat := if fe s (rdB s) 100 = rdB s then .inr (rdB s) else rdP s (fe s (rdB s) 100)
def sp_read_decimal : Spec := fun ds h Q R => ∃ s : List Nat, ds = [.str s] ∧ s.length ≤ 5000 ∧ CpS s ∧ (∀ n k r, rdT s = .inl (n, k) → RedD n k r → Q (num r) h) ∧ (∀ e : Nat, rdT s = .inr e → R ⟨8, .int e⟩ h)
theorem b_read_decimal {Γ : Gam} (g127 : Γ.fn 127 = sp_figures_end) (g128 : Γ.fn 128 = sp_last_part) (g129 : Γ.fn 129 = sp_reduced) : BodyOk Γ ir_read_decimal sp_read_decimal := by
  rintro ds h Q R ⟨s, rfl, sl, sc, q1, q2⟩
  refine ⟨rfl, ?_⟩
  show wpSs Γ ir_read_decimal.body [.val (.str s), .un, .un, .un, .un, .un, .un] h _
  have SLe : SL = 16777216 := rfl
  simp only [ir_read_decimal, k_read_decimal_9, wpSs, wpS, wpE, wpEs, wpAnd, wpOr, wpI, wpF, wpT, wpH, Env.at, Env.put, Env.wipe, Env.nox, Slot.nox, wBin, binI, wCmp, cmpI, wBi, isTy, asL, asLT, bindT, bindTs, intsOf, boolsOf, atInt, ixL0, ixL1, ixL2, List.getElem?_cons_zero, List.getElem?_cons_succ, List.nil_append, List.cons_append, List.append_nil, if_true, ite_true, isTy]
  simp only [Bool.not_true, Bool.false_eq_true, if_false]
  simp only [k_read_decimal_8, wpSs, wpS, wpE, wpEs, wpAnd, wpOr, wpI, wpF, wpT, wpH, Env.at, Env.put, Env.wipe, Env.nox, Slot.nox, wBin, binI, wCmp, cmpI, wBi, isTy, asL, asLT, bindT, bindTs, intsOf, boolsOf, atInt, ixL0, ixL1, ixL2, List.getElem?_cons_zero, List.getElem?_cons_succ, List.nil_append, List.cons_append, List.append_nil, if_true, ite_true]
  rw [show (1 : Int) = ((1 : Nat) : Int) from rfl, slP_nat]
  have et : s.take (min 1 s.length) = s.take 1 := by
    cases s with
    | nil => rfl
    | cons c r => rw [List.length_cons, Nat.min_eq_left (by omega)]
  rw [et]
  refine ⟨by omega, str_okT (sc.to _) rfl, ?_⟩
  rw [str_eqbT]
  have eb : (if decide (s.take 1 = [45]) = true then ((1 : Nat) : Int) else 0) = ((rdB s : Nat) : Int) := by
    unfold rdB
    by_cases d : s.take 1 = [45]
    · rw [decide_eq_true d, if_pos rfl, if_pos d]
    · rw [decide_eq_false d, if_neg (by simp), if_neg d]; rfl
  rw [eb]
  have b1 : rdB s ≤ 1 := by unfold rdB; split <;> omega
  simp only [k_read_decimal_7, wpSs, wpS, wpE, wpEs, wpAnd, wpOr, wpI, wpF, wpT, wpH, Env.at, Env.put, Env.wipe, Env.nox, Slot.nox, wBin, binI, wCmp, cmpI, wBi, isTy, asL, asLT, bindT, bindTs, intsOf, boolsOf, atInt, ixL0, ixL1, ixL2, List.getElem?_cons_zero, List.getElem?_cons_succ, List.nil_append, List.cons_append, List.append_nil, if_true, ite_true, g127]
  refine ⟨s, rdB s, 100, rfl, by omega, by omega, by decide, fun z => ?_, fun z => ?_⟩
  · exact q2 _ (by unfold rdT; rw [if_pos z])
  obtain ⟨p1, p2, p3⟩ := fe_dig z
  obtain ⟨p4, p5⟩ := fe_le (s := s) (a := rdB s) (m := 100)
  have eT : rdT s = rdP s (fe s (rdB s) 100) := by unfold rdT; rw [if_neg z]
  rw [eT] at q1 q2
  generalize fe s (rdB s) 100 = p at *
  simp only [k_read_decimal_6, wpSs, wpS, wpE, wpEs, wpAnd, wpOr, wpI, wpF, wpT, wpH, Env.at, Env.put, Env.wipe, Env.nox, Slot.nox, wBin, binI, wCmp, cmpI, wBi, isTy, asL, asLT, bindT, bindTs, intsOf, boolsOf, atInt, ixL0, ixL1, ixL2, List.getElem?_cons_zero, List.getElem?_cons_succ, List.nil_append, List.cons_append, List.append_nil, if_true, ite_true]
  -- what follows the end of the figures
  have rest : ∀ e : Nat, p ≤ e → e ≤ 300 → ((s.drop (p + 1)).take (e - (p + 1)) = [] ∨ digS ((s.drop (p + 1)).take (e - (p + 1))) = true) → (∀ n k r, rdQ s p e = .inl (n, k) → RedD n k r → Q (num r) h) → (∀ a : Nat, rdQ s p e = .inr a → R ⟨8, .int a⟩ h) →
      wpSs Γ k_read_decimal_4 [.val (.str s), .val (.int (rdB s : Nat)), .val (.int (p : Nat)), .val (.int (e : Nat)), .un, .un, .un] h (PBd Q R) := fun e pe e3 dg r1 r2 => by
    unfold rdQ at r1 r2
    simp only [k_read_decimal_4, wpSs, wpS, wpE, wpEs, wpAnd, wpOr, wpI, wpF, wpT, wpH, Env.at, Env.put, Env.wipe, Env.nox, Slot.nox, wBin, binI, wCmp, cmpI, wBi, isTy, asL, asLT, bindT, bindTs, intsOf, boolsOf, atInt, ixL0, ixL1, ixL2, List.getElem?_cons_zero, List.getElem?_cons_succ, List.nil_append, List.cons_append, List.append_nil, if_true, ite_true, g128]
    refine ⟨s, e, rfl, by omega, sc, by omega, fun k zz hz => ?_, fun a ha => ?_⟩
    · rw [hz] at r1 r2
      dsimp only at r1 r2
      simp only [k_read_decimal_3, wpSs, wpS, wpE, wpEs, wpAnd, wpOr, wpI, wpF, wpT, wpH, Env.at, Env.put, Env.wipe, Env.nox, Slot.nox, wBin, binI, wCmp, cmpI, wBi, isTy, asL, asLT, bindT, bindTs, intsOf, boolsOf, atInt, ixL0, ixL1, ixL2, List.getElem?_cons_zero, List.getElem?_cons_succ, List.nil_append, List.cons_append, List.append_nil, if_true, ite_true]
      refine ⟨by omega, ?_⟩
      by_cases c : zz < s.length
      · rw [if_pos (decide_eq_true (show (zz : Int) < (s.length : Int) by omega))]
        rw [if_pos c] at r2
        exact r2 zz rfl
      · rw [if_neg (by rw [decide_eq_true_iff]; omega)]
        rw [if_neg c] at r1
        simp only [k_read_decimal_2, wpSs, wpS, wpE, wpEs, wpAnd, wpOr, wpI, wpF, wpT, wpH, Env.at, Env.put, Env.wipe, Env.nox, Slot.nox, wBin, binI, wCmp, cmpI, wBi, isTy, asL, asLT, bindT, bindTs, intsOf, boolsOf, atInt, ixL0, ixL1, ixL2, List.getElem?_cons_zero, List.getElem?_cons_succ, List.nil_append, List.cons_append, List.append_nil, if_true, ite_true]
        rw [show (p : Int) + 1 = ((p + 1 : Nat) : Int) by omega, cut_nat, cut_nat]
        have tl : ((s.drop (p + 1)).take (e - (p + 1))).length ≤ 300 := by rw [List.length_take]; omega
        have dall : digS ((s.drop (rdB s)).take (p - rdB s) ++ (s.drop (p + 1)).take (e - (p + 1))) = true := by
          rcases dg with y | y
          · rw [y, List.append_nil]; exact p2
          · unfold digS at *
            rw [List.all_append, p2, y]; rfl
        refine ⟨by omega, by omega, by omega, ?_⟩
        rw [intZ_dig (fun y => p1 (List.append_eq_nil_iff.mp y).1) dall]
        refine ⟨by rw [List.length_append]; omega, ?_⟩
        simp only [k_read_decimal_1, wpSs, wpS, wpE, wpEs, wpAnd, wpOr, wpI, wpF, wpT, wpH, Env.at, Env.put, Env.wipe, Env.nox, Slot.nox, wBin, binI, wCmp, cmpI, wBi, isTy, asL, asLT, bindT, bindTs, intsOf, boolsOf, atInt, ixL0, ixL1, ixL2, List.getElem?_cons_zero, List.getElem?_cons_succ, List.nil_append, List.cons_append, List.append_nil, if_true, ite_true, g129]
        refine ⟨ok_int, ?_⟩
        rw [eqb_ints]
        by_cases b : rdB s = 0
        · rw [if_pos (decide_eq_true (show ((rdB s : Nat) : Int) = 0 by omega))]
          rw [if_pos b, Int.one_mul] at r1
          exact ⟨_, _, rfl, fun r hr => r1 _ _ r rfl hr⟩
        · rw [if_neg (by rw [decide_eq_true_iff]; omega)]
          rw [if_neg b] at r1
          refine ⟨_, _, rfl, fun r hr => r1 _ _ r rfl ?_⟩
          rw [show ∀ x : Int, (-1) * x = 0 - x from fun x => by omega]
          exact hr
    · rw [ha] at r2
      exact r2 a rfl
  simp only [k_read_decimal_5, wpSs, wpS, wpE, wpEs, wpAnd, wpOr, wpI, wpF, wpT, wpH, Env.at, Env.put, Env.wipe, Env.nox, Slot.nox, wBin, binI, wCmp, cmpI, wBi, isTy, asL, asLT, bindT, bindTs, intsOf, boolsOf, atInt, ixL0, ixL1, ixL2, List.getElem?_cons_zero, List.getElem?_cons_succ, List.nil_append, List.cons_append, List.append_nil, if_true, ite_true]
  unfold rdP dotB at q1 q2
  rw [show ((p : Nat) : Int) + 1 = ((p + 1 : Nat) : Int) by omega, cut_nat, show p + 1 - p = 1 by omega]
  have nodot : ¬ (p - rdB s < 100 ∧ (s.drop p).take 1 = [46]) → wpSs Γ k_read_decimal_4 [.val (.str s), .val (.int (rdB s : Nat)), .val (.int (p : Nat)), .val (.int (p : Nat)), .un, .un, .un] h (PBd Q R) := fun n => by
    have e : (decide (p - rdB s < 100) && decide ((s.drop p).take 1 = [46])) = false := by
      rw [← Bool.not_eq_true, Bool.and_eq_true, decide_eq_true_iff, decide_eq_true_iff]
      exact n
    rw [e] at q1 q2
    rw [if_neg (by simp)] at q1 q2
    exact rest p (Nat.le_refl _) (by omega) (.inl (by rw [show p - (p + 1) = 0 by omega, List.take_zero])) q1 q2
  by_cases c1 : p - rdB s < 100
  · rw [if_pos (decide_eq_true (show ((p : Nat) : Int) - ((rdB s : Nat) : Int) < 100 by omega))]
    refine ⟨by omega, str_okT (sc.cut _ _) rfl, ?_⟩
    rw [str_eqbT]
    by_cases c2 : (s.drop p).take 1 = [46]
    · rw [if_pos (decide_eq_true c2)]
      rw [decide_eq_true c1, decide_eq_true c2] at q1 q2
      rw [if_pos (by rfl)] at q1 q2
      simp only [g127]
      refine ⟨s, p + 1, 100 + rdB s - p, ?_, by omega, by omega, by omega, fun z2 => ?_, fun z2 => ?_⟩
      · rw [show (100 : Int) - (p : Nat) + ((rdB s : Nat) : Int) = ((100 + rdB s - p : Nat) : Int) by omega]
      · rw [if_pos z2] at q2
        exact q2 _ rfl
      · rw [if_neg z2] at q1 q2
        obtain ⟨f1, f2, f3⟩ := fe_dig z2
        obtain ⟨f4, f5⟩ := fe_le (s := s) (a := p + 1) (m := 100 + rdB s - p)
        exact rest _ (by omega) (by omega) (.inr f2) q1 q2
    · rw [if_neg (by rw [decide_eq_true_iff]; exact c2)]
      exact nodot fun y => c2 y.2
  · rw [if_neg (by rw [decide_eq_true_iff]; omega)]
    exact nodot fun y => c1 y.1
end FF
namespace FF
/-! ### k67: the way through a text, sign by sign -/
inductive QS where | bg | mi | wh | pt | pl | ex | em | o1 | o2 | o3
def QS.nm : QS → List Nat
  | .bg => [98, 101, 103, 105, 110]
  | .mi => [109, 105, 110, 117, 115]
  | .wh => [119, 104, 111, 108, 101]
  | .pt => [112, 111, 105, 110, 116]
  | .pl => [112, 108, 97, 99, 101, 115]
  | .ex => [101]
  | .em => [101, 45]
  | .o1 => [111, 110, 101]
  | .o2 => [116, 119, 111]
  | .o3 => [116, 104, 114, 101, 101]
def goD (q : QS) (m : Nat) : Option QS := match q with
  | .bg => if m < 100 then some .wh else none
  | .mi => if m < 100 then some .wh else none
  | .wh => if m < 100 then some .wh else none
  | .pt => if m < 100 then some .pl else none
  | .pl => if m < 100 then some .pl else none
  | .ex => some .o1
  | .em => some .o1
  | .o1 => some .o2
  | .o2 => some .o3
  | .o3 => none
def goM (q : QS) : Option QS := match q with
  | .bg => some .mi
  | .ex => some .em
  | _ => none
def goP (q : QS) (m : Nat) : Option QS := match q with
  | .wh => if m < 100 then some .pt else none
  | _ => none
def goE (q : QS) : Option QS := match q with
  | .wh => some .ex
  | .pl => some .ex
  | _ => none
def go67 (q : QS) (m c : Nat) : Option QS := if dgB c = true then goD q m else if c = 45 then goM q else if c = 46 then goP q m else if c = 101 then goE q else none
def cntB (q : QS) : Bool := match q with
  | .bg => true
  | .mi => true
  | .wh => true
  | .pt => true
  | .pl => true
  | _ => false
def gom (q : QS) (m c : Nat) : Nat := if dgB c = true ∧ cntB q = true then m + 1 else m
def acc67 (q : QS) : Bool := match q with
  | .wh => true
  | .pl => true
  | .o1 => true
  | .o2 => true
  | .o3 => true
  | _ => false
def aut : List Nat → QS → Nat → Nat → Option Nat
  | [], q, _, i => if acc67 q = true then none else some i
  | c :: r, q, m, i => match go67 q m c with
    | some q' => aut r q' (gom q m c) (i + 1)
    | none => some i
/-! by the suffixes -/
def eN (t : List Nat) (i : Nat) : Option Nat := if t = [] then none else some i
def e3 (k : Nat) (t : List Nat) (i : Nat) : Option Nat := eN (t.drop (min k (run t))) (i + min k (run t))
def eE (t : List Nat) (i : Nat) : Option Nat := if min 3 (run t) = 0 then some i else e3 3 t i
def eX (t : List Nat) (i : Nat) : Option Nat := if t.take 1 = [45] then eE (t.drop 1) (i + 1) else eE t i
def eF (t : List Nat) (i : Nat) : Option Nat := if t.take 1 = [101] then eX (t.drop 1) (i + 1) else eN t i
def ePl (m : Nat) (t : List Nat) (i : Nat) : Option Nat := eF (t.drop (min (100 - m) (run t))) (i + min (100 - m) (run t))
def ePt (m : Nat) (t : List Nat) (i : Nat) : Option Nat := if min (100 - m) (run t) = 0 then some i else ePl m t i
def eDot (m : Nat) (t : List Nat) (i : Nat) : Option Nat := if m < 100 ∧ t.take 1 = [46] then ePt m (t.drop 1) (i + 1) else eF t i
def eW (m : Nat) (t : List Nat) (i : Nat) : Option Nat := eDot (m + min (100 - m) (run t)) (t.drop (min (100 - m) (run t))) (i + min (100 - m) (run t))
def eB (t : List Nat) (i : Nat) : Option Nat := if min 100 (run t) = 0 then some i else eW 0 t i
theorem run_c {c : Nat} {r : List Nat} (h : dgB c = true) : run (c :: r) = run r + 1 := by
  show (if dgB c = true then run r + 1 else 0) = _
  rw [if_pos h]
theorem run_n {c : Nat} {r : List Nat} (h : dgB c = false) : run (c :: r) = 0 := by
  show (if dgB c = true then run r + 1 else 0) = _
  rw [if_neg (by rw [h]; simp)]
theorem dg_ne {c : Nat} (h : dgB c = true) : c ≠ 45 ∧ c ≠ 46 ∧ c ≠ 101 := by
  have := of_decide_eq_true h
  omega
theorem aut_c {c : Nat} {r : List Nat} {q : QS} {m i : Nat} : aut (c :: r) q m i = match go67 q m c with
    | some q' => aut r q' (gom q m c) (i + 1)
    | none => some i := rfl
theorem go_no {q : QS} {m c : Nat} (h : ¬ dgB c = true) (h1 : c = 45 → goM q = none) (h2 : c = 46 → goP q m = none) (h3 : c = 101 → goE q = none) : go67 q m c = none := by
  unfold go67
  rw [if_neg h]
  by_cases c1 : c = 45
  · rw [if_pos c1]; exact h1 c1
  · rw [if_neg c1]
    by_cases c2 : c = 46
    · rw [if_pos c2]; exact h2 c2
    · rw [if_neg c2]
      by_cases c3 : c = 101
      · rw [if_pos c3]; exact h3 c3
      · rw [if_neg c3]
theorem eN_c {c : Nat} {r : List Nat} {i : Nat} : eN (c :: r) i = some i := rfl
theorem aut_o3 {t : List Nat} {m i : Nat} : aut t .o3 m i = eN t i := by
  cases t with
  | nil => rfl
  | cons c r =>
    rw [aut_c, eN_c]
    by_cases h : dgB c = true
    · unfold go67
      rw [if_pos h]
      rfl
    · rw [go_no h (fun _ => rfl) (fun _ => rfl) (fun _ => rfl)]
theorem e3_nil {k i : Nat} : e3 k [] i = none := by unfold e3; rw [List.drop_nil]; rfl
theorem e3_0 {t : List Nat} {i : Nat} : e3 0 t i = eN t i := by unfold e3; rw [Nat.zero_min, List.drop_zero]; rfl
theorem e3_d {k c : Nat} {r : List Nat} {i : Nat} (h : dgB c = true) : e3 (k + 1) (c :: r) i = e3 k r (i + 1) := by
  unfold e3
  rw [run_c h, show min (k + 1) (run r + 1) = min k (run r) + 1 by omega, List.drop_succ_cons, show i + (min k (run r) + 1) = i + 1 + min k (run r) by omega]
theorem e3_n {k c : Nat} {r : List Nat} {i : Nat} (h : dgB c = false) : e3 k (c :: r) i = some i := by
  unfold e3
  rw [run_n h, Nat.min_zero, List.drop_zero]
  rfl
theorem aut_o2 {t : List Nat} {m i : Nat} : aut t .o2 m i = e3 1 t i := by
  cases t with
  | nil => exact e3_nil.symm
  | cons c r =>
    rw [aut_c]
    by_cases h : dgB c = true
    · rw [e3_d h, e3_0]
      unfold go67
      rw [if_pos h]
      exact aut_o3
    · rw [e3_n (by simpa using h)]
      rw [go_no h (fun _ => rfl) (fun _ => rfl) (fun _ => rfl)]
theorem aut_o1 {t : List Nat} {m i : Nat} : aut t .o1 m i = e3 2 t i := by
  cases t with
  | nil => exact e3_nil.symm
  | cons c r =>
    rw [aut_c]
    by_cases h : dgB c = true
    · rw [e3_d h]
      unfold go67
      rw [if_pos h]
      exact aut_o2
    · rw [e3_n (by simpa using h)]
      rw [go_no h (fun _ => rfl) (fun _ => rfl) (fun _ => rfl)]
theorem eE_d {c : Nat} {r : List Nat} {i : Nat} (h : dgB c = true) : eE (c :: r) i = e3 2 r (i + 1) := by
  unfold eE
  rw [run_c h, if_neg (by omega), e3_d h]
theorem eE_n {c : Nat} {r : List Nat} {i : Nat} (h : dgB c = false) : eE (c :: r) i = some i := by
  unfold eE
  rw [run_n h, if_pos (by omega)]
theorem aut_em {t : List Nat} {m i : Nat} : aut t .em m i = eE t i := by
  cases t with
  | nil => rfl
  | cons c r =>
    rw [aut_c]
    by_cases h : dgB c = true
    · rw [eE_d h]
      unfold go67
      rw [if_pos h]
      exact aut_o1
    · rw [eE_n (by simpa using h)]
      rw [go_no h (fun _ => rfl) (fun _ => rfl) (fun _ => rfl)]
theorem aut_ex {t : List Nat} {m i : Nat} : aut t .ex m i = eX t i := by
  cases t with
  | nil => rfl
  | cons c r =>
    rw [aut_c]
    unfold eX
    by_cases h : dgB c = true
    · rw [if_neg (by simpa using (dg_ne h).1), eE_d h]
      unfold go67
      rw [if_pos h]
      exact aut_o1
    · by_cases h2 : c = 45
      · subst h2
        rw [if_pos (by rfl)]
        exact aut_em
      · rw [if_neg (by simpa using h2), eE_n (by simpa using h)]
        rw [go_no h (fun z => absurd z h2) (fun _ => rfl) (fun _ => rfl)]
theorem ePl_d {m c : Nat} {r : List Nat} {i : Nat} (hm : m < 100) (h : dgB c = true) : ePl m (c :: r) i = ePl (m + 1) r (i + 1) := by
  unfold ePl
  rw [run_c h, show min (100 - m) (run r + 1) = min (100 - (m + 1)) (run r) + 1 by omega, List.drop_succ_cons, show i + (min (100 - (m + 1)) (run r) + 1) = i + 1 + min (100 - (m + 1)) (run r) by omega]
theorem ePl_0 {m : Nat} {t : List Nat} {i : Nat} (h : min (100 - m) (run t) = 0) : ePl m t i = eF t i := by
  unfold ePl
  rw [h, List.drop_zero, Nat.add_zero]
theorem eF_ne {c : Nat} {r : List Nat} {i : Nat} (h : c ≠ 101) : eF (c :: r) i = some i := by
  unfold eF
  rw [if_neg (by simpa using h)]
  rfl
theorem eF_e {r : List Nat} {i : Nat} : eF (101 :: r) i = eX r (i + 1) := by
  unfold eF
  rw [if_pos (by rfl)]
  rfl
theorem aut_pl : ∀ {t : List Nat} {m i : Nat}, aut t .pl m i = ePl m t i
  | [], m, i => by
    rw [ePl_0 (by show min (100 - m) 0 = 0; omega)]
    rfl
  | c :: r, m, i => by
    rw [aut_c]
    by_cases h : dgB c = true
    · unfold go67
      rw [if_pos h]
      unfold goD
      by_cases hm : m < 100
      · rw [ePl_d hm h]
        simp only [if_pos hm]
        have e : gom .pl m c = m + 1 := by unfold gom; rw [if_pos ⟨h, rfl⟩]
        rw [e]
        exact aut_pl
      · rw [ePl_0 (by omega), eF_ne (dg_ne h).2.2]
        simp only [if_neg hm]
    · rw [ePl_0 (by rw [run_n (by simpa using h)]; omega)]
      by_cases h2 : c = 101
      · subst h2
        rw [eF_e]
        exact aut_ex
      · rw [eF_ne h2, go_no h (fun _ => rfl) (fun _ => rfl) (fun z => absurd z h2)]
theorem aut_pt {t : List Nat} {m i : Nat} : aut t .pt m i = ePt m t i := by
  unfold ePt
  cases t with
  | nil =>
    rw [if_pos (by show min (100 - m) 0 = 0; omega)]
    rfl
  | cons c r =>
    rw [aut_c]
    by_cases h : dgB c = true
    · unfold go67
      rw [if_pos h]
      unfold goD
      by_cases hm : m < 100
      · rw [if_neg (show ¬ min (100 - m) (run (c :: r)) = 0 by rw [run_c h]; omega), ePl_d hm h]
        simp only [if_pos hm]
        have e : gom .pt m c = m + 1 := by unfold gom; rw [if_pos ⟨h, rfl⟩]
        rw [e]
        exact aut_pl
      · rw [if_pos (show min (100 - m) (run (c :: r)) = 0 by omega)]
        simp only [if_neg hm]
    · rw [if_pos (by rw [run_n (by simpa using h)]; omega)]
      rw [go_no h (fun _ => rfl) (fun _ => rfl) (fun _ => rfl)]
theorem eW_d {m c : Nat} {r : List Nat} {i : Nat} (hm : m < 100) (h : dgB c = true) : eW m (c :: r) i = eW (m + 1) r (i + 1) := by
  unfold eW
  rw [run_c h, show min (100 - m) (run r + 1) = min (100 - (m + 1)) (run r) + 1 by omega, List.drop_succ_cons, show i + (min (100 - (m + 1)) (run r) + 1) = i + 1 + min (100 - (m + 1)) (run r) by omega, show m + (min (100 - (m + 1)) (run r) + 1) = m + 1 + min (100 - (m + 1)) (run r) by omega]
theorem eW_0 {m : Nat} {t : List Nat} {i : Nat} (h : min (100 - m) (run t) = 0) : eW m t i = eDot m t i := by
  unfold eW
  rw [h, List.drop_zero, Nat.add_zero, Nat.add_zero]
theorem eDot_n {m c : Nat} {r : List Nat} {i : Nat} (h : ¬ (m < 100 ∧ c = 46)) : eDot m (c :: r) i = eF (c :: r) i := by
  unfold eDot
  rw [if_neg (fun z => h ⟨z.1, by simpa using z.2⟩)]
theorem aut_wh : ∀ {t : List Nat} {m i : Nat}, aut t .wh m i = eW m t i
  | [], m, i => by
    rw [eW_0 (by show min (100 - m) 0 = 0; omega)]
    unfold eDot
    rw [if_neg (fun z => by cases z.2)]
    rfl
  | c :: r, m, i => by
    rw [aut_c]
    by_cases h : dgB c = true
    · unfold go67
      rw [if_pos h]
      unfold goD
      by_cases hm : m < 100
      · rw [eW_d hm h]
        simp only [if_pos hm]
        have e : gom .wh m c = m + 1 := by unfold gom; rw [if_pos ⟨h, rfl⟩]
        rw [e]
        exact aut_wh
      · rw [eW_0 (by omega), eDot_n (fun z => hm z.1), eF_ne (dg_ne h).2.2]
        simp only [if_neg hm]
    · rw [eW_0 (by rw [run_n (by simpa using h)]; omega)]
      have eg : gom .wh m c = m := by unfold gom; rw [if_neg (fun z => h z.1)]
      rw [eg]
      by_cases h2 : c = 101
      · subst h2
        rw [eDot_n (fun z => by omega), eF_e]
        exact aut_ex
      · by_cases h3 : c = 46
        · subst h3
          by_cases hm : m < 100
          · have g : go67 .wh m 46 = some .pt := by unfold go67 goP; rw [if_neg h, if_neg (by decide), if_pos rfl, if_pos hm]
            rw [g]
            unfold eDot
            rw [if_pos ⟨hm, rfl⟩]
            exact aut_pt
          · rw [eDot_n (fun z => hm z.1), eF_ne h2, show go67 .wh m 46 = none from go_no h (fun _ => rfl) (fun _ => by unfold goP; exact if_neg hm) (fun z => by omega)]
        · rw [eDot_n (fun z => h3 z.2), eF_ne h2, go_no h (fun _ => rfl) (fun z => absurd z h3) (fun z => absurd z h2)]
theorem eB_c {q : QS} {t : List Nat} {i : Nat} (hq : q = .bg ∨ q = .mi) (ht : q = .bg → t.take 1 ≠ [45]) : aut t q 0 i = eB t i := by
  unfold eB
  cases t with
  | nil => rcases hq with rfl | rfl <;> rfl
  | cons c r =>
    rw [aut_c]
    by_cases h : dgB c = true
    · rw [if_neg (by rw [run_c h]; omega), eW_d (by decide) h]
      have e : gom q 0 c = 1 := by unfold gom; rcases hq with rfl | rfl <;> rw [if_pos ⟨h, rfl⟩]
      have g : go67 q 0 c = some .wh := by unfold go67; rw [if_pos h]; rcases hq with rfl | rfl <;> rfl
      rw [g, e]
      exact aut_wh
    · rw [if_pos (by rw [run_n (by simpa using h)]; omega)]
      have g : go67 q 0 c = none := by
        rcases hq with rfl | rfl
        · exact go_no h (fun z => absurd (by rw [z]; rfl) (ht rfl)) (fun _ => rfl) (fun _ => rfl)
        · exact go_no h (fun _ => rfl) (fun _ => rfl) (fun _ => rfl)
      rw [g]
theorem aut_bg {t : List Nat} : aut t .bg 0 0 = if t.take 1 = [45] then eB (t.drop 1) 1 else eB t 0 := by
  by_cases h : t.take 1 = [45]
  · rw [if_pos h]
    cases t with
    | nil => cases h
    | cons c r =>
      have : c = 45 := by simpa using h
      subst this
      exact eB_c (.inr rfl) (fun z => by cases z)
  · rw [if_neg h]
    exact eB_c (.inl rfl) fun _ => h
/-! what read_decimal tells -/
def errT (r : (Int × Int) ⊕ Nat) : Option Nat := match r with
  | .inr e => some e
  | .inl _ => none
theorem drop_dd {s : List Nat} {a b : Nat} : (s.drop a).drop b = s.drop (a + b) := by rw [List.drop_drop]
theorem eN_at {s : List Nat} {z : Nat} : eN (s.drop z) z = if z < s.length then some z else none := by
  unfold eN
  by_cases c : z < s.length
  · rw [if_pos c, if_neg (fun y => by have := congrArg List.length y; rw [List.length_drop, List.length_nil] at this; omega)]
  · rw [if_neg c, if_pos (List.drop_eq_nil_of_le (by omega))]
theorem lp_err {s : List Nat} {e : Nat} : eF (s.drop e) e = match lpT s e with
    | .inr a => some a
    | .inl (_, z) => if z < s.length then some z else none := by
  unfold eF lpT
  by_cases c : (s.drop e).take 1 = [101]
  · rw [if_pos c, if_pos c]
    have k : eX ((s.drop e).drop 1) (e + 1) = eE (s.drop (lpB s e)) (lpB s e) := by
      unfold eX lpB
      rw [drop_dd]
      by_cases d : (s.drop (e + 1)).take 1 = [45]
      · rw [if_pos d, if_pos d, drop_dd]
      · rw [if_neg d, if_neg d]
    rw [k]
    unfold eE e3
    have f : fe s (lpB s e) 3 = lpB s e + min 3 (run (s.drop (lpB s e))) := rfl
    by_cases z : min 3 (run (s.drop (lpB s e))) = 0
    · rw [if_pos z, if_pos (by rw [f, z]; rfl)]
    · rw [if_neg z, if_neg (by rw [f]; omega), drop_dd, f]
      exact eN_at
  · rw [if_neg c, if_neg c]
    exact eN_at
theorem rdQ_err {s : List Nat} {p e : Nat} : errT (rdQ s p e) = eF (s.drop e) e := by
  rw [lp_err]
  unfold rdQ
  cases lpT s e with
  | inr a => rfl
  | inl y =>
    obtain ⟨k, z⟩ := y
    dsimp only
    by_cases c : z < s.length
    · rw [if_pos c, if_pos c]; rfl
    · rw [if_neg c, if_neg c]; rfl
theorem rdT_err {s : List Nat} : errT (rdT s) = aut s .bg 0 0 := by
  rw [aut_bg]
  have hb : (if s.take 1 = [45] then eB (s.drop 1) 1 else eB s 0) = eB (s.drop (rdB s)) (rdB s) := by
    unfold rdB
    split
    · rfl
    · rw [List.drop_zero]
  rw [hb]
  generalize eb : rdB s = b
  unfold rdT
  rw [eb]
  unfold eB
  have f : fe s b 100 = b + min 100 (run (s.drop b)) := rfl
  by_cases z : min 100 (run (s.drop b)) = 0
  · rw [if_pos z, if_pos (by rw [f, z]; rfl)]; rfl
  · rw [if_neg z, if_neg (by rw [f]; omega)]
    unfold eW
    rw [Nat.sub_zero, drop_dd, ← f, Nat.zero_add]
    have ej : min 100 (run (s.drop b)) = fe s b 100 - b := by rw [f]; omega
    rw [ej]
    have pb : b ≤ fe s b 100 := by rw [f]; omega
    generalize fe s b 100 = p at *
    unfold rdP eDot dotB
    rw [eb]
    by_cases c : p - b < 100 ∧ (s.drop p).take 1 = [46]
    · rw [if_pos c, if_pos (by rw [decide_eq_true c.1, decide_eq_true c.2]; rfl)]
      unfold ePt
      have f2 : fe s (p + 1) (100 + b - p) = p + 1 + min (100 - (p - b)) (run (s.drop (p + 1))) := by
        show p + 1 + min (100 + b - p) _ = _
        rw [show 100 + b - p = 100 - (p - b) by omega]
      rw [drop_dd]
      by_cases y : min (100 - (p - b)) (run (s.drop (p + 1))) = 0
      · rw [if_pos y, if_pos (by rw [f2, y])]; rfl
      · rw [if_neg y, if_neg (by rw [f2]; omega), rdQ_err, f2]
        unfold ePl
        rw [drop_dd]
    · rw [if_neg c, if_neg (by rw [Bool.and_eq_true, decide_eq_true_iff, decide_eq_true_iff]; exact c), rdQ_err]
end FF
namespace FF
/-! ### texts of decimals: a text of parts, read -/
theorem drop_at {a b : List Nat} {n : Nat} (h : a.length = n) : (a ++ b).drop n = b := by
  subst h
  exact List.drop_left
theorem take_at {a b : List Nat} {n : Nat} (h : a.length = n) : (a ++ b).take n = a := by
  subst h
  exact List.take_left
theorem dig_head {l t : List Nat} (h : l ≠ []) (d : digS l = true) : ∃ c r, l ++ t = c :: r ∧ 48 ≤ c ∧ c < 58 := by
  cases l with
  | nil => exact absurd rfl h
  | cons c r =>
    refine ⟨c, r ++ t, rfl, ?_⟩
    unfold digS at d
    rw [List.all_cons, Bool.and_eq_true] at d
    exact of_decide_eq_true d.1
structure TxP (sg W P tl : List Nat) (kt : Int) : Prop where
  sg : sg = [] ∨ sg = [45]
  dW : digS W = true
  nW : W ≠ []
  dP : digS P = true
  len : W.length + P.length ≤ 100
  tl : (tl = [] ∧ kt = 0) ∨ ∃ es E, tl = 101 :: (es ++ E) ∧ ((es = [] ∧ kt = (decN E : Int)) ∨ (es = [45] ∧ kt = -(decN E : Int))) ∧ digS E = true ∧ E ≠ [] ∧ E.length ≤ 3
def dotP (P : List Nat) : List Nat := if P = [] then [] else 46 :: P
def txt (sg W P tl : List Nat) : List Nat := sg ++ (W ++ (dotP P ++ tl))
theorem fe_at {s a l t : List Nat} {n m : Nat} (hs : s = a ++ (l ++ t)) (hn : a.length = n) (d : digS l = true) (hm : l.length ≤ m) (ht : t = [] ∨ dgB (t.getD 0 0) = false) : fe s n m = n + l.length := by
  unfold fe
  rw [hs, drop_at hn, run_app d ht]
  omega
theorem txt_read {sg W P tl : List Nat} {kt : Int} (x : TxP sg W P tl kt) : rdT (txt sg W P tl) = .inl ((if sg = [] then 1 else -1) * (decN (W ++ P) : Int), kt - (P.length : Int)) := by
  obtain ⟨hsg, dW, nW, dP, len, htl⟩ := x
  have lW : 1 ≤ W.length := List.length_pos_iff.mpr nW
  -- the sign
  have eb : rdB (txt sg W P tl) = sg.length := by
    unfold rdB txt
    rcases hsg with rfl | rfl
    · obtain ⟨c, r, e, c1, c2⟩ := dig_head (t := dotP P ++ tl) nW dW
      rw [List.nil_append, e, if_neg]
      · rfl
      · intro z
        have : c = 45 := (List.cons.inj (show c :: [] = 45 :: [] from z)).1
        omega
    · simp
  have sl : (if sg = [] then (1 : Int) else -1) = if sg.length = 0 then 1 else -1 := by
    rcases hsg with rfl | rfl <;> rfl
  have tl0 : tl = [] ∨ dgB (tl.getD 0 0) = false := by
    rcases htl with ⟨z, _⟩ | ⟨es, E, rfl, _⟩
    · exact .inl z
    · exact .inr rfl
  have rest0 : dotP P ++ tl = [] ∨ dgB ((dotP P ++ tl).getD 0 0) = false := by
    unfold dotP
    by_cases c : P = []
    · rw [if_pos c]; exact tl0
    · rw [if_neg c]; exact .inr rfl
  have f1 : fe (txt sg W P tl) sg.length 100 = sg.length + W.length := fe_at (a := sg) (l := W) (t := dotP P ++ tl) rfl rfl dW (by omega) rest0
  unfold rdT
  rw [eb, f1, if_neg (by omega)]
  generalize hp : sg.length + W.length = p at *
  have s2 : txt sg W P tl = (sg ++ W) ++ (dotP P ++ tl) := by unfold txt; rw [List.append_assoc]
  have dp : (txt sg W P tl).drop p = dotP P ++ tl := by rw [s2]; exact drop_at (by rw [List.length_append]; exact hp)
  have tw : ((txt sg W P tl).drop sg.length).take (p - sg.length) = W := by
    unfold txt
    rw [drop_at rfl]
    exact take_at (by omega)
  have s3 : txt sg W P tl = (sg ++ W ++ dotP P) ++ tl := by rw [s2, List.append_assoc (sg ++ W)]
  -- the end of it
  have fin : ∀ e : Nat, e = sg.length + W.length + (dotP P).length → ((txt sg W P tl).drop (p + 1)).take (e - (p + 1)) = P → max 0 ((e : Int) - p - 1) = (P.length : Int) → rdQ (txt sg W P tl) p e = .inl ((if sg = [] then 1 else -1) * (decN (W ++ P) : Int), kt - (P.length : Int)) := fun e he tp mx => by
    have de : (txt sg W P tl).drop e = tl := by rw [s3]; exact drop_at (by rw [List.length_append, List.length_append]; exact he.symm)
    have le : (txt sg W P tl).length = e + tl.length := by rw [s3, List.length_append, List.length_append, List.length_append]; omega
    have hl : lpT (txt sg W P tl) e = .inl (kt, (txt sg W P tl).length) := by
      unfold lpT
      rw [de]
      rcases htl with ⟨rfl, rfl⟩ | ⟨es, E, rfl, hk, dE, nE, lE⟩
      · rw [if_neg (by simp), le]
        rfl
      · rw [if_pos (by rfl)]
        have s4 : txt sg W P (101 :: (es ++ E)) = (sg ++ W ++ dotP P ++ [101]) ++ (es ++ E) := by rw [s3]; simp
        have d4 : (txt sg W P (101 :: (es ++ E))).drop (e + 1) = es ++ E := by rw [s4]; exact drop_at (by simp; omega)
        have lb : lpB (txt sg W P (101 :: (es ++ E))) e = e + 1 + es.length := by
          unfold lpB
          rw [d4]
          rcases hk with ⟨rfl, _⟩ | ⟨rfl, _⟩
          · obtain ⟨c, r, ee, c1, c2⟩ := dig_head (t := []) nE dE
            rw [List.append_nil] at ee
            rw [List.nil_append, ee, if_neg]
            · rfl
            · intro z
              have : c = 45 := (List.cons.inj (show c :: [] = 45 :: [] from z)).1
              omega
          · simp
        have s5 : txt sg W P (101 :: (es ++ E)) = (sg ++ W ++ dotP P ++ [101] ++ es) ++ (E ++ []) := by rw [s4]; simp
        have l5 : (sg ++ W ++ dotP P ++ [101] ++ es).length = e + 1 + es.length := by simp; omega
        have f5 := fe_at (m := 3) s5 l5 dE lE (.inl rfl)
        have lE0 : 1 ≤ E.length := List.length_pos_iff.mpr nE
        have d5 : ((txt sg W P (101 :: (es ++ E))).drop (e + 1 + es.length)).take E.length = E := by
          rw [s5, drop_at l5, List.append_nil, List.take_length]
        rw [lb, f5, if_neg (by omega), show e + 1 + es.length + E.length - (e + 1 + es.length) = E.length by omega, d5]
        have ll : e + 1 + es.length + E.length = (txt sg W P (101 :: (es ++ E))).length := by
          rw [le, List.length_cons, List.length_append]; omega
        rw [ll]
        congr 2
        rcases hk with ⟨rfl, rfl⟩ | ⟨rfl, rfl⟩
        · rw [if_pos (by simp), Int.one_mul]
        · rw [if_neg (by simp)]; omega
    unfold rdQ
    rw [hl]
    dsimp only
    rw [if_neg (by omega), eb, tw, tp, mx, ← sl]
  unfold rdP dotB
  rw [dp, eb, show p - sg.length = W.length by omega]
  by_cases c : P = []
  · have e1 : (dotP P ++ tl).take 1 ≠ [46] := by
      unfold dotP
      rw [if_pos c, List.nil_append]
      rcases htl with ⟨rfl, _⟩ | ⟨es, E, rfl, _⟩
      · simp
      · simp
    rw [decide_eq_false e1, Bool.and_false, if_neg (by simp)]
    refine fin p (by unfold dotP; rw [if_pos c]; simp; omega) ?_ ?_
    · rw [show p - (p + 1) = 0 by omega, List.take_zero, c]
    · rw [c]
      show max 0 ((p : Int) - p - 1) = ((0 : Nat) : Int)
      omega
  · have lP : 1 ≤ P.length := List.length_pos_iff.mpr c
    have ed : dotP P = 46 :: P := if_neg c
    rw [ed, decide_eq_true (show W.length < 100 by omega), decide_eq_true (show (46 :: P ++ tl).take 1 = [46] from rfl), if_pos (show (true && true) = true from rfl)]
    have s6 : txt sg W P tl = (sg ++ W ++ [46]) ++ (P ++ tl) := by rw [s2, ed]; simp
    have l6 : (sg ++ W ++ [46]).length = p + 1 := by simp; omega
    have f6 := fe_at (m := 100 + sg.length - p) s6 l6 dP (by omega) tl0
    rw [f6, if_neg (by omega)]
    refine fin (p + 1 + P.length) (by rw [ed, List.length_cons]; omega) ?_ ?_
    · rw [show p + 1 + P.length - (p + 1) = P.length by omega, s6, drop_at l6]
      exact take_at rfl
    · omega
/-! ### integers as texts -/
theorem digN_dig {n : Nat} : digS (digN n) = true := by
  refine List.all_eq_true.mpr fun c hc => ?_
  obtain ⟨ch, hch, e⟩ := List.mem_map.mp hc
  have := Nat.isDigit_of_mem_toDigits (by decide) (by decide) hch
  unfold Char.isDigit at this
  rw [Bool.and_eq_true] at this
  obtain ⟨a, b⟩ := this
  have a := of_decide_eq_true a
  have b := of_decide_eq_true b
  have a' : 48 ≤ ch.toNat := a
  have b' : ch.toNat ≤ 57 := b
  exact decide_eq_true (by omega)
theorem digN_val {n : Nat} : decN (digN n) = n := PySem.W.KIN.val_back n
theorem digN_ne {n : Nat} : digN n ≠ [] := by
  intro z
  have h := Nat.toDigits_ne_nil (b := 10) (n := n)
  unfold digN at z
  exact h (List.map_eq_nil_iff.mp z)
theorem digN_len : ∀ {k n : Nat}, n < 10 ^ (k + 1) → (digN n).length ≤ k + 1
  | k, n, h => by
    by_cases c : n < 10
    · unfold digN
      rw [Nat.toDigits_of_lt_base c]
      show 1 ≤ k + 1
      omega
    · cases k with
      | zero => omega
      | succ k =>
        have t : Nat.toDigits 10 (n / 10) ++ Nat.toDigits 10 (n % 10) = Nat.toDigits 10 (10 * (n / 10) + n % 10) := Nat.toDigits_append_toDigits (by decide) (by omega) (Nat.mod_lt n (by decide))
        rw [Nat.div_add_mod] at t
        have ih := digN_len (k := k) (n := n / 10) (by
          rw [Nat.pow_succ] at h
          omega)
        unfold digN at ih ⊢
        rw [List.length_map] at ih ⊢
        rw [← t, List.length_append, Nat.toDigits_of_lt_base (Nat.mod_lt n (by decide))]
        show _ + 1 ≤ _
        omega
end FF
namespace FF
/-! ### numbers without common divisors -/
def Red (n d : Int) : Prop := 0 < d ∧ gg n d = 1
theorem Red.fr {n d : Int} (h : Red n d) : fr n d = (n, d) := by
  unfold FF.fr
  rw [h.2, Int.ediv_one, Int.ediv_one]
theorem Red.neg {n d : Int} (h : Red n d) : Red (-n) d := by
  refine ⟨h.1, ?_⟩
  have := h.2
  show ((Int.gcd (-n) d : Nat) : Int) = 1
  rw [Int.neg_gcd]
  exact this
theorem Red.eq {a b c d : Int} (h1 : Red a b) (h2 : Red c d) : (a, b) = (c, d) ↔ a * d = c * b := by
  rw [← h1.fr, ← h2.fr]
  exact fr_eq h1.1 h2.1
/-! ### floats by their numbers -/
def HH (p : Int) : Int := 2 ^ (p - 1).toNat
theorem HH_pos {p : Int} : 0 < HH p := two_pos _
/-- how often the unit is doubled -/
def stp (p k : Int) : Nat := (k / HH p - 1).toNat
/-- float number k from 0 on, in least units -/
def VN (p k : Int) : Int := (k - stp p k * HH p) * 2 ^ stp p k
def VI (p k : Int) : Int := if 0 ≤ k then VN p k else -VN p (-k)
theorem VN_zero {p : Int} : VN p 0 = 0 := by
  unfold VN stp
  simp
theorem VI_neg {p k : Int} : VI p (-k) = -VI p k := by
  unfold VI
  by_cases a : 0 ≤ k
  · rw [if_pos a]
    by_cases b : k = 0
    · subst b
      rw [if_pos (by decide), show -(0 : Int) = 0 from rfl, VN_zero]; rfl
    · rw [if_neg (by omega), Int.neg_neg]
  · rw [if_neg a, if_pos (by omega), Int.neg_neg]
theorem VI_pos {p k : Int} (h : 0 ≤ k) : VI p k = VN p k := if_pos h
theorem two_succ (s : Nat) : (2 : Int) ^ (s + 1) = 2 * 2 ^ s := by rw [Int.pow_succ, Int.mul_comm]
/-- q units of 2 ** s -/
theorem VN_at {p q : Int} {s : Nat} (h : s = 0 ∧ 0 ≤ q ∧ q < 2 * HH p ∨ HH p ≤ q ∧ q < 2 * HH p) : stp p (q + s * HH p) = s ∧ VN p (q + s * HH p) = q * 2 ^ s := by
  have hp := HH_pos (p := p)
  have e : stp p (q + s * HH p) = s := by
    unfold stp
    rw [Int.add_mul_ediv_right _ _ (show HH p ≠ 0 by omega)]
    rcases h with ⟨rfl, h1, h2⟩ | ⟨h1, h2⟩
    · have : q / HH p ≤ 1 := by
        have := (Int.ediv_lt_iff_lt_mul (a := q) (b := 2) hp).mpr h2
        omega
      omega
    · have a : q / HH p < 2 := (Int.ediv_lt_iff_lt_mul hp).mpr h2
      have b : 1 ≤ q / HH p := (Int.le_ediv_iff_mul_le hp).mpr (by omega)
      omega
  refine ⟨e, ?_⟩
  unfold VN
  rw [e]
  congr 1
  omega
/-- each number from 0 on is so -/
theorem k_at {p k : Int} (h : 0 ≤ k) : ∃ (q : Int) (s : Nat), k = q + s * HH p ∧ (s = 0 ∧ 0 ≤ q ∧ q < 2 * HH p ∨ HH p ≤ q ∧ q < 2 * HH p) := by
  have hp := HH_pos (p := p)
  have e := Int.ediv_mul_add_emod k (HH p)
  have r0 := Int.emod_nonneg k (show HH p ≠ 0 by omega)
  have r1 := Int.emod_lt_of_pos k hp
  have d0 : 0 ≤ k / HH p := Int.ediv_nonneg h (Int.le_of_lt hp)
  by_cases c : k / HH p ≤ 1
  · refine ⟨k, 0, by omega, .inl ⟨rfl, h, ?_⟩⟩
    have := (Int.ediv_lt_iff_lt_mul (a := k) (b := 2) hp).mp (by omega)
    omega
  · obtain ⟨s, hs⟩ : ∃ s : Nat, k / HH p = s + 1 := ⟨(k / HH p - 1).toNat, by omega⟩
    rw [hs, Int.add_mul, Int.one_mul] at e
    exact ⟨k - s * HH p, s, by omega, .inr ⟨by omega, by omega⟩⟩
theorem VN_succ {p k : Int} (h : 0 ≤ k) : VN p (k + 1) = VN p k + 2 ^ stp p k := by
  obtain ⟨q, s, rfl, c⟩ := k_at (p := p) h
  have hp := HH_pos (p := p)
  obtain ⟨e1, e2⟩ := VN_at c
  rw [e1, e2]
  by_cases z : q + 1 < 2 * HH p
  · have c' : s = 0 ∧ 0 ≤ q + 1 ∧ q + 1 < 2 * HH p ∨ HH p ≤ q + 1 ∧ q + 1 < 2 * HH p := by omega
    have e3 := (VN_at c').2
    rw [show q + s * HH p + 1 = q + 1 + s * HH p by omega, e3, Int.add_mul, Int.one_mul]
  · have e4 : q + 1 = 2 * HH p := by omega
    have c' : s + 1 = 0 ∧ 0 ≤ HH p ∧ HH p < 2 * HH p ∨ HH p ≤ HH p ∧ HH p < 2 * HH p := by omega
    have e3 := (VN_at (s := s + 1) c').2
    have e5 : q + s * HH p + 1 = HH p + ((s + 1 : Nat) : Int) * HH p := by
      rw [Int.natCast_add, Int.add_mul]
      have : ((1 : Nat) : Int) * HH p = HH p := by rw [Int.natCast_one, Int.one_mul]
      omega
    rw [e5, e3, two_succ]
    have : q * 2 ^ s + 2 ^ s = (q + 1) * 2 ^ s := by rw [Int.add_mul, Int.one_mul]
    rw [this, e4, Int.mul_assoc, Int.mul_left_comm]
theorem VI_lt_succ {p k : Int} : VI p k < VI p (k + 1) := by
  by_cases h : 0 ≤ k
  · rw [VI_pos h, VI_pos (by omega), VN_succ h]
    have := two_pos (stp p k)
    omega
  · have e1 : VI p k = -VI p (-k) := by rw [VI_neg, Int.neg_neg]
    have e2 : VI p (k + 1) = -VI p (-k - 1) := by rw [← VI_neg]; congr 1; omega
    have h2 : 0 ≤ -k - 1 := by omega
    have := VN_succ (p := p) h2
    rw [show -k - 1 + 1 = -k by omega] at this
    have t := two_pos (stp p (-k - 1))
    rw [e1, e2, VI_pos (show 0 ≤ -k by omega), VI_pos h2]
    omega
theorem VI_lt {p k : Int} : ∀ {j : Int}, k < j → VI p k < VI p j := by
  intro j h
  obtain ⟨n, rfl⟩ : ∃ n : Nat, j = k + 1 + n := ⟨(j - k - 1).toNat, by omega⟩
  induction n with
  | zero =>
    rw [show k + 1 + ((0 : Nat) : Int) = k + 1 by omega]
    exact VI_lt_succ
  | succ n ih =>
    have := VI_lt_succ (p := p) (k := k + 1 + (n : Int))
    have := ih (by omega)
    rw [show k + 1 + ((n + 1 : Nat) : Int) = k + 1 + (n : Int) + 1 by omega]
    omega
theorem VI_le {p k j : Int} (h : k ≤ j) : VI p k ≤ VI p j := by
  by_cases e : k = j
  · subst e; exact Int.le_refl _
  · exact Int.le_of_lt (VI_lt (by omega))
/-- float k is at most n / d -/
def leV (p lo k n d : Int) : Prop := VI p k * up lo * d ≤ n * dn lo
/-- float k is n / d -/
def eqV (p lo k n d : Int) : Prop := VI p k * up lo * d = n * dn lo
/-- n / d lies from float k on, ahead of the next one -/
def FO (p lo n d k : Int) : Prop := leV p lo k n d ∧ ¬ leV p lo (k + 1) n d
theorem lo_pos {lo d : Int} (h : 0 < d) : 0 < up lo * d := Int.mul_pos up_pos h
theorem leV.mono {p lo k j n d : Int} (hd : 0 < d) (h : leV p lo k n d) (l : j ≤ k) : leV p lo j n d := by
  unfold leV at *
  rw [Int.mul_assoc] at *
  have := Int.mul_le_mul_of_nonneg_right (VI_le (p := p) l) (Int.le_of_lt (lo_pos (lo := lo) hd))
  omega
theorem FO.uniq {p lo n d k j : Int} (hd : 0 < d) (h : FO p lo n d k) (g : FO p lo n d j) : k = j := by
  rcases Int.lt_trichotomy k j with z | z | z
  · exact absurd (g.1.mono hd (by omega)) h.2
  · exact z
  · exact absurd (h.1.mono hd (by omega)) g.2
theorem FO.le {p lo n d k j : Int} (hd : 0 < d) (h : FO p lo n d k) : leV p lo j n d ↔ j ≤ k := by
  constructor
  · intro g
    apply Classical.byContradiction
    intro z
    exact h.2 (g.mono hd (by omega))
  · exact fun l => h.1.mono hd l
theorem leV.scale {p lo k n d c : Int} (hc : 0 < c) : leV p lo k (c * n) (c * d) ↔ leV p lo k n d := by
  unfold leV
  have e1 : VI p k * up lo * (c * d) = c * (VI p k * up lo * d) := Int.mul_left_comm ..
  have e2 : c * n * dn lo = c * (n * dn lo) := Int.mul_assoc ..
  rw [e1, e2, mul_le_iff hc]
theorem leV.fr {p lo k n d : Int} (hd : 0 < d) : leV p lo k (fr n d).1 (fr n d).2 ↔ leV p lo k n d := by
  have h := fr_mul (n := n) (d := d)
  have g := gg_pos (n := n) hd
  rw [← leV.scale (n := (FF.fr n d).1) g, ← h.1, ← h.2]
theorem FO.fr {p lo k n d : Int} (hd : 0 < d) : FO p lo (fr n d).1 (fr n d).2 k ↔ FO p lo n d k := by
  unfold FO
  rw [leV.fr hd, leV.fr hd]
end FF
namespace FF
/-! ### the program's defs -/
/-- the greatest float's number -/
def mo (p lo hi : Int) : Int := 2 * HH p - 1 + (hi - lo) * HH p
/-- the exponent and size of what is put in -/
structure Nz (n d : Int) : Prop where
  d0 : 0 < d
  sn : Sz 4000 n
  sd : Sz 4000 d
theorem UEx.le {p lo n d e : Int} (hd : 0 < d) (l : lo ≤ 4000) (sn : Sz 4000 n) (p1 : 1 ≤ p) (u : UEx p lo n d e) : e ≤ 4000 := by
  apply Classical.byContradiction
  intro z
  obtain ⟨u0, u1, u2⟩ := u
  rcases u2 with y | y
  · omega
  · have h := (le2_at (e - 1 + p).toNat 0 (by omega)).mp y
    have k : (2 : Int) ^ 4000 ≤ 2 ^ (e - 1 + p).toNat := pow_le (by omega)
    have k2 := Int.mul_le_mul_of_nonneg_left (show (1 : Int) ≤ d by omega) (Int.le_of_lt (two_pos (e - 1 + p).toNat))
    have e4 : ((2 ^ 4000 : Nat) : Int) = 2 ^ 4000 := Int.natCast_pow 2 4000
    unfold Sz at sn
    generalize (2 : Int) ^ (e - 1 + p).toNat = a at *
    generalize (2 : Int) ^ 4000 = b at *
    generalize (2 : Nat) ^ 4000 = c at *
    simp only [Int.pow_zero, Int.mul_one] at *
    omega
def KB (p k : Int) : Prop := -(5000 * HH p) < k ∧ k < 5000 * HH p
end FF
namespace FF
theorem eqV.neg {p lo k n d : Int} (h : eqV p lo k n d) : eqV p lo (-k) (-n) d := by
  unfold eqV at *
  rw [VI_neg, Int.neg_mul, Int.neg_mul, Int.neg_mul, h]
theorem Nz.neg {n d : Int} (z : Nz n d) : Nz (-n) d := ⟨z.d0, by have := z.sn; unfold Sz at *; omega, z.sd⟩
theorem mo_le {p lo hi : Int} (f : Fm p lo hi) : mo p lo hi < 500 * HH p := by
  obtain ⟨p2, p100, l0, lh, h0⟩ := f
  have hp := HH_pos (p := p)
  have : (hi - lo) * HH p ≤ 400 * HH p := Int.mul_le_mul_of_nonneg_right (by omega) (Int.le_of_lt hp)
  unfold mo
  omega
theorem KB.of {p lo hi k : Int} (f : Fm p lo hi) (h1 : -mo p lo hi ≤ k) (h2 : k ≤ mo p lo hi) : KB p k := by
  have := mo_le f
  have hp := HH_pos (p := p)
  constructor <;> omega
end FF
namespace FF
def ir_l_source_of : Fd := ⟨1, 1, (.cons (.set 0 (.ite (.cmp .ge (.var 0) (.int 0)) (.var 0) (.bin .sub (.bin .sub (.int 0) (.bin .mul (.int 3) (.var 0))) (.int 1)))) (.cons (.ret (.refl (.cons (.bin .mul (.var 0) (.bi .int (.cons (.cmp .ge (.var 0) (.bin .pow (.int 10) (.int 18))) .nil))) (.cons (.bin .mod (.bi .int (.cons (.var 0) .nil)) (.int 2147483647)) (.cons (.int 0) .nil))))) .nil))⟩
def k_l_next_1 : Ss := .cons (.ret (.var 2)) .nil
def k_l_next_2 : Ss := .cons (.setIdx (.var 0) (.int 0) (.bin .fdiv (.idx (.var 0) (.int 0)) (.var 1))) k_l_next_1
def k_l_next_3 : Ss := .cons (.set 2 (.bin .mod (.bi .int (.cons (.idx (.var 0) (.int 0)) .nil)) (.var 1))) k_l_next_2
def k_l_next_4 : Ss := .cons (.ret (.bin .mod (.bi .int (.cons (.bin .fdiv (.var 4) (.int 7)) .nil)) (.var 1))) .nil
def k_l_next_5 : Ss := .cons (.set 4 (.bin .mod (.bi .int (.cons (.bin .mul (.var 4) (.bin .add (.bin .fdiv (.var 4) (.int 2003)) (.int 40692))) .nil)) (.int 2147483399))) k_l_next_4
def k_l_next_6 : Ss := .cons (.set 4 (.bin .mod (.bi .int (.cons (.bin .mul (.var 4) (.bin .add (.bin .fdiv (.var 4) (.int 1009)) (.int 69621))) .nil)) (.var 3))) k_l_next_5
def k_l_next_7 : Ss := .cons (.set 4 (.bin .mod (.bi .int (.cons (.bin .mul (.var 4) (.int 48271)) .nil)) (.var 3))) k_l_next_6
def k_l_next_8 : Ss := .cons (.set 4 (.bin .mod (.bi .int (.cons (.bin .add (.bin .add (.idx (.var 0) (.int 1)) (.bin .mul (.int 104729) (.idx (.var 0) (.int 2)))) (.int 7919)) .nil)) (.var 3))) k_l_next_7
def k_l_next_9 : Ss := .cons (.set 3 (.int 2147483647)) k_l_next_8
def k_l_next_10 : Ss := .cons (.setIdx (.var 0) (.int 2) (.bin .add (.idx (.var 0) (.int 2)) (.int 1))) k_l_next_9
def k_l_next_11 : Ss := .cons (.ite (.cmp .gt (.idx (.var 0) (.int 0)) (.int 0)) k_l_next_3 .nil) k_l_next_10
def ir_l_next : Fd := ⟨2, 5, k_l_next_11⟩
def ir_l_one : Fd := ⟨2, 2, (.cons (.ret (.idx (.var 1) (.call 1900 (.cons (.var 0) (.cons (.bi .len (.cons (.var 1) .nil)) .nil)) []))) .nil)⟩
end FF
namespace FF
/-! ### the laws' helpers -/
theorem b_next {Γ : Gam} : BodyOk Γ ir_l_next sp_draw := by
  rintro ds h Q R ⟨a, many, k, rfl, hm, bm, ⟨w0, w1, w2, e, h1, h2', h3, h4⟩, hk, q⟩
  refine ⟨rfl, ?_⟩
  show wpSs Γ ir_l_next.body [.val (.ref a), .val (.int many), .un, .un, .un] h _
  have m0 : many ≠ 0 := by omega
  simp only [ir_l_next, k_l_next_11, e, wpSs, wpS, wpE, wpEs, wpAnd, wpOr, wpI, wpF, wpT, wpH, Env.at, Env.put, Env.wipe, Env.nox, Slot.nox, wBin, binI, wCmp, cmpI, wBi, isTy, asL, asLT, bindT, bindTs, intsOf, boolsOf, atInt, ixL0, ixL1, ixL2, List.getElem?_cons_zero, List.getElem?_cons_succ, List.nil_append, List.cons_append, List.append_nil, if_true, ite_true]
  by_cases c : 0 < w0
  · rw [if_pos (decide_eq_true c)]
    simp only [k_l_next_3, k_l_next_2, k_l_next_1, e, wpSs, wpS, wpE, wpEs, wpAnd, wpOr, wpI, wpF, wpT, wpH, Env.at, Env.put, Env.wipe, Env.nox, Slot.nox, wBin, binI, wCmp, cmpI, wBi, isTy, asL, asLT, bindT, bindTs, intsOf, boolsOf, atInt, ixL0, ixL1, ixL2, List.getElem?_cons_zero, List.getElem?_cons_succ, List.nil_append, List.cons_append, List.append_nil, if_true, ite_true, AH.put_same, List.set_cons_zero, List.set_cons_succ]
    rw [fmod_pos hm, fdiv_pos hm]
    exact ⟨m0, ⟨m0, bm⟩, q _ _ (Int.emod_nonneg _ m0) (Int.emod_lt_of_pos _ hm) ⟨_, _, _, AH.put_same, h1, h2', h3, by omega⟩ fun b n => AH.put_ne n⟩
  · rw [if_neg (by simpa using c)]
    have p1 : (0 : Int) < 2147483647 := by decide
    have p2 : (0 : Int) < 2147483399 := by decide
    simp only [k_l_next_10, e, wpSs, wpS, wpE, wpEs, wpAnd, wpOr, wpI, wpF, wpT, wpH, Env.at, Env.put, Env.wipe, Env.nox, Slot.nox, wBin, binI, wCmp, cmpI, wBi, isTy, asL, asLT, bindT, bindTs, intsOf, boolsOf, atInt, ixL0, ixL1, ixL2, List.getElem?_cons_zero, List.getElem?_cons_succ, List.nil_append, List.cons_append, List.append_nil, if_true, ite_true, AH.put_same, List.set_cons_zero, List.set_cons_succ]
    have hh : (h.put a (Cell.lst [D.int w0, D.int w1, D.int (w2 + 1)])) a = some (Cell.lst [D.int w0, D.int w1, D.int (w2 + 1)]) := AH.put_same
    have hf : ∀ b, b ≠ a → (h.put a (Cell.lst [D.int w0, D.int w1, D.int (w2 + 1)])) b = h b := fun b n => AH.put_ne n
    generalize h.put a (Cell.lst [D.int w0, D.int w1, D.int (w2 + 1)]) = h2 at *
    unfold k_l_next_9
    rw [set_int]
    simp only [k_l_next_8, wpSs, wpS, wpE, wpEs, wpAnd, wpOr, wpI, wpF, wpT, wpH, Env.at, Env.put, Env.wipe, Env.nox, Slot.nox, wBin, binI, wCmp, cmpI, wBi, isTy, asL, asLT, bindT, bindTs, intsOf, boolsOf, atInt, ixL0, ixL1, ixL2, List.getElem?_cons_zero, List.getElem?_cons_succ, List.nil_append, List.cons_append, List.append_nil, if_true, ite_true, hh]
    refine ⟨mul_small (by unfold Sz; decide), by decide, ?_⟩
    rw [fmod_pos p1]
    have t1 := Int.emod_nonneg (w1 + 104729 * (w2 + 1) + 7919) (show (2147483647 : Int) ≠ 0 by decide)
    have t2 := Int.emod_lt_of_pos (w1 + 104729 * (w2 + 1) + 7919) p1
    generalize (w1 + 104729 * (w2 + 1) + 7919) % 2147483647 = x at *
    simp only [k_l_next_7, wpSs, wpS, wpE, wpEs, wpAnd, wpOr, wpI, wpF, wpT, wpH, Env.at, Env.put, Env.wipe, Env.nox, Slot.nox, wBin, binI, wCmp, cmpI, wBi, isTy, asL, asLT, bindT, bindTs, intsOf, boolsOf, atInt, ixL0, ixL1, ixL2, List.getElem?_cons_zero, List.getElem?_cons_succ, List.nil_append, List.cons_append, List.append_nil, if_true, ite_true]
    refine ⟨mul_small (by unfold Sz; omega), by decide, ?_⟩
    rw [fmod_pos p1]
    have t3 := Int.emod_nonneg (x * 48271) (show (2147483647 : Int) ≠ 0 by decide)
    have t4 := Int.emod_lt_of_pos (x * 48271) p1
    generalize x * 48271 % 2147483647 = y at *
    simp only [k_l_next_6, wpSs, wpS, wpE, wpEs, wpAnd, wpOr, wpI, wpF, wpT, wpH, Env.at, Env.put, Env.wipe, Env.nox, Slot.nox, wBin, binI, wCmp, cmpI, wBi, isTy, asL, asLT, bindT, bindTs, intsOf, boolsOf, atInt, ixL0, ixL1, ixL2, List.getElem?_cons_zero, List.getElem?_cons_succ, List.nil_append, List.cons_append, List.append_nil, if_true, ite_true]
    refine ⟨⟨by decide, by decide⟩, mul_small (by unfold Sz; omega), by decide, ?_⟩
    rw [fmod_pos p1, fdiv_pos (show (0 : Int) < 1009 by decide)]
    have t5 := Int.emod_nonneg (y * (y / 1009 + 69621)) (show (2147483647 : Int) ≠ 0 by decide)
    have t6 := Int.emod_lt_of_pos (y * (y / 1009 + 69621)) p1
    generalize y * (y / 1009 + 69621) % 2147483647 = z at *
    simp only [k_l_next_5, wpSs, wpS, wpE, wpEs, wpAnd, wpOr, wpI, wpF, wpT, wpH, Env.at, Env.put, Env.wipe, Env.nox, Slot.nox, wBin, binI, wCmp, cmpI, wBi, isTy, asL, asLT, bindT, bindTs, intsOf, boolsOf, atInt, ixL0, ixL1, ixL2, List.getElem?_cons_zero, List.getElem?_cons_succ, List.nil_append, List.cons_append, List.append_nil, if_true, ite_true]
    refine ⟨⟨by decide, by decide⟩, mul_small (by unfold Sz; omega), by decide, ?_⟩
    rw [fmod_pos p2]
    generalize z * (z.fdiv 2003 + 40692) % 2147483399 = u at *
    simp only [k_l_next_4, wpSs, wpS, wpE, wpEs, wpAnd, wpOr, wpI, wpF, wpT, wpH, Env.at, Env.put, Env.wipe, Env.nox, Slot.nox, wBin, binI, wCmp, cmpI, wBi, isTy, asL, asLT, bindT, bindTs, intsOf, boolsOf, atInt, ixL0, ixL1, ixL2, List.getElem?_cons_zero, List.getElem?_cons_succ, List.nil_append, List.cons_append, List.append_nil, if_true, ite_true]
    refine ⟨⟨by decide, by decide⟩, m0, ?_⟩
    rw [fmod_pos hm]
    exact q _ _ (Int.emod_nonneg _ m0) (Int.emod_lt_of_pos _ hm) ⟨_, _, _, hh, h1, h2', by omega, by omega⟩ hf
/-- some: any things -/
def sp_one : Spec := fun ds h Q _ => ∃ (a : Nat) (l : List D) (k : Nat), ds = [.ref a, .lst l] ∧ 0 < l.length ∧ l.length < 100000 ∧ Wel k h a ∧ k < 1073741824 ∧ ∀ d h', d ∈ l → Wel (k + 1) h' a → Fr a h h' → Q d h'
theorem b_one {Γ : Gam} (hd : Γ.fn 1900 = sp_draw) : BodyOk Γ ir_l_one sp_one := by
  rintro ds h Q R ⟨a, l, k, rfl, hl, hl2, hw, hk, q⟩
  refine ⟨rfl, ?_⟩
  show wpSs Γ ir_l_one.body [.val (.ref a), .val (.lst l)] h _
  simp only [ir_l_one, wpSs, wpS, wpE, wpEs, wpAnd, wpOr, wpI, wpF, wpT, wpH, Env.at, Env.put, Env.wipe, Env.nox, Slot.nox, wBin, binI, wCmp, cmpI, wBi, isTy, asL, asLT, bindT, bindTs, intsOf, boolsOf, atInt, ixL0, ixL1, ixL2, List.getElem?_cons_zero, List.getElem?_cons_succ, List.nil_append, List.cons_append, List.append_nil, if_true, ite_true, hd]
  refine ⟨a, _, k, rfl, by omega, Nat.le_trans (bitsI_le (show Sz 20 (l.length : Int) by unfold Sz; omega)) (by decide), hw, hk, fun d h' d0 d1 w' fr => ?_⟩
  simp only [wpSs, wpS, wpE, wpEs, wpAnd, wpOr, wpI, wpF, wpT, wpH, Env.at, Env.put, Env.wipe, Env.nox, Slot.nox, wBin, binI, wCmp, cmpI, wBi, isTy, asL, asLT, bindT, bindTs, intsOf, boolsOf, atInt, ixL0, ixL1, ixL2, List.getElem?_cons_zero, List.getElem?_cons_succ, List.nil_append, List.cons_append, List.append_nil, if_true, ite_true, asLT, ixP_ok d0 d1]
  have hi : d.toNat < l.length := by omega
  rw [List.getElem?_eq_getElem hi]
  exact q _ h' (List.getElem_mem hi) w' fr
def sp_cell_at : Spec := fun ds h Q _ => ∃ (l : List Int) (i : Int), ds = [.lst (l.map .int), .int i] ∧ l.length < 100000 ∧ 0 ≤ i ∧ ∀ c, Q (.int c) h
theorem b_source_of {Γ : Gam} : BodyOk Γ ir_l_source_of sp_well := by
  rintro ds h Q R ⟨c, rfl, q⟩
  refine ⟨rfl, ?_⟩
  show wpSs Γ ir_l_source_of.body [.val (.int c)] h _
  have p1 : (0 : Int) < 2147483647 := by decide
  have fin : ∀ c : Int, wpSs Γ (.cons (.ret (.refl (.cons (.bin .mul (.var 0) (.bi .int (.cons (.cmp .ge (.var 0) (.bin .pow (.int 10) (.int 18))) .nil))) (.cons (.bin .mod (.bi .int (.cons (.var 0) .nil)) (.int 2147483647)) (.cons (.int 0) .nil))))) .nil) [.val (.int c)] h ⟨fun _ h => Q .non h, Q, fun _ _ => False, fun x _ h => R x h⟩ := by
    intro c
    simp only [wpSs, wpS, wpE, wpEs, wpAnd, wpOr, wpI, wpF, wpT, wpH, Env.at, Env.put, Env.wipe, Env.nox, Slot.nox, wBin, binI, wCmp, cmpI, wBi, isTy, asL, asLT, bindT, bindTs, intsOf, boolsOf, atInt, ixL0, ixL1, ixL2, List.getElem?_cons_zero, List.getElem?_cons_succ, List.nil_append, List.cons_append, List.append_nil, if_true, ite_true]
    refine ⟨⟨by decide, by decide, by decide⟩, mul_small2 ?_, by decide, (show 3 ≤ SL by decide), fun a ha => q a _ ha ⟨_, _, _, AH.put_same, ?_, ?_, Int.le_refl _, Int.le_refl _⟩ fun b n => AH.put_ne n⟩
    · unfold Sz
      split <;> decide
    · rw [fmod_pos p1]
      exact Int.emod_nonneg _ (by decide)
    · rw [fmod_pos p1]
      have := Int.emod_lt_of_pos c p1
      omega
  simp only [ir_l_source_of]
  by_cases c0 : 0 ≤ c
  · simp only [wpSs, wpS, wpE, wpEs, wpAnd, wpOr, wpI, wpF, wpT, wpH, Env.at, Env.put, Env.wipe, Env.nox, Slot.nox, wBin, binI, wCmp, cmpI, wBi, isTy, asL, asLT, bindT, bindTs, intsOf, boolsOf, atInt, ixL0, ixL1, ixL2, List.getElem?_cons_zero, List.getElem?_cons_succ, List.nil_append, List.cons_append, List.append_nil, if_true, ite_true]
    rw [if_pos (decide_eq_true c0)]
    have := fin c
    simp only [wpSs, wpS, wpE, wpEs, wpAnd, wpOr, wpI, wpF, wpT, wpH, Env.at, Env.put, Env.wipe, Env.nox, Slot.nox, wBin, binI, wCmp, cmpI, wBi, isTy, asL, asLT, bindT, bindTs, intsOf, boolsOf, atInt, ixL0, ixL1, ixL2, List.getElem?_cons_zero, List.getElem?_cons_succ, List.nil_append, List.cons_append, List.append_nil, if_true, ite_true] at this
    exact this
  · simp only [wpSs, wpS, wpE, wpEs, wpAnd, wpOr, wpI, wpF, wpT, wpH, Env.at, Env.put, Env.wipe, Env.nox, Slot.nox, wBin, binI, wCmp, cmpI, wBi, isTy, asL, asLT, bindT, bindTs, intsOf, boolsOf, atInt, ixL0, ixL1, ixL2, List.getElem?_cons_zero, List.getElem?_cons_succ, List.nil_append, List.cons_append, List.append_nil, if_true, ite_true]
    rw [if_neg (by simpa using c0)]
    refine ⟨mul_small (by unfold Sz; decide), ?_⟩
    have := fin (0 - 3 * c - 1)
    simp only [wpSs, wpS, wpE, wpEs, wpAnd, wpOr, wpI, wpF, wpT, wpH, Env.at, Env.put, Env.wipe, Env.nox, Slot.nox, wBin, binI, wCmp, cmpI, wBi, isTy, asL, asLT, bindT, bindTs, intsOf, boolsOf, atInt, ixL0, ixL1, ixL2, List.getElem?_cons_zero, List.getElem?_cons_succ, List.nil_append, List.cons_append, List.append_nil, if_true, ite_true] at this
    exact this
end FF
namespace FF
theorem m_one : MoS sp_one := by
  rintro ds h Q Q' R R' k _ ⟨a0, a1, a2, a3, a4, a5, a6, a7, q⟩
  exact ⟨a0, a1, a2, a3, a4, a5, a6, a7, fun b1 b2 b3 b4 b5 => k _ _ (q b1 b2 b3 b4 b5)⟩
theorem m_cell_at : MoS sp_cell_at := by
  rintro ds h Q Q' R R' k _ ⟨a0, a1, a2, a3, a4, q⟩
  exact ⟨a0, a1, a2, a3, a4, fun b1 => k _ _ (q b1)⟩
end FF
namespace FF
def ir_66_tens : Fd := ⟨1, 1, (.cons (.ret (.bi .int (.cons (.bin .add (.str [49]) (.bin .mul (.str [48]) (.var 0))) .nil))) .nil)⟩
def k_66_reduced_1 : Ss := .cons (.setP 0 1 (.bin .fdiv (.var 0) (.int 10)) (.bin .add (.var 1) (.int 1))) .nil
def k_66_reduced_2 : Ss := .cons (.ret (.ite (.cmp .ne (.var 0) (.int 0)) (.tup (.cons (.var 0) (.cons (.var 1) .nil))) (.tup (.cons (.int 0) (.cons (.int 0) .nil))))) .nil
def k_66_reduced_3 : Ss := .cons (.whl (.ands (.cons (.cmp .ne (.var 0) (.int 0)) (.cons (.cmp .eq (.bin .mod (.bi .int (.cons (.var 0) .nil)) (.int 10)) (.int 0)) .nil))) k_66_reduced_1) k_66_reduced_2
def ir_66_reduced : Fd := ⟨2, 2, k_66_reduced_3⟩
def k_66_wide_1 : Ss := .cons (.setP 2 3 (.bin .add (.bin .mul (.var 2) (.bin .pow (.int 10) (.int 9))) (.call 1900 (.cons (.var 0) (.cons (.bin .pow (.int 10) (.int 9)) .nil)) [])) (.bin .mul (.var 3) (.bin .pow (.int 10) (.int 9)))) .nil
def k_66_wide_2 : Ss := .cons (.ret (.bin .mod (.bi .int (.cons (.var 2) .nil)) (.var 1))) .nil
def k_66_wide_3 : Ss := .cons (.whl (.cmp .lt (.var 3) (.var 1)) k_66_wide_1) k_66_wide_2
def k_66_wide_4 : Ss := .cons (.setT (.cons (.name 2) (.cons (.name 3) .nil)) (.tup (.cons (.int 0) (.cons (.int 1) .nil)))) k_66_wide_3
def ir_66_wide : Fd := ⟨2, 4, k_66_wide_4⟩
def k_66_figures_1 : Ss := .cons (.ret (.call 1902 (.cons (.var 0) (.cons (.lst (.cons (.sslF (.var 2) (.bin .sub (.int 0) (.var 1))) (.cons (.bin .mul (.str [48]) (.var 1)) (.cons (.bin .mul (.str [57]) (.var 1)) (.cons (.bin .add (.bin .mul (.str [48]) (.bin .sub (.var 1) (.int 1))) (.str [53])) .nil))))) .nil)) [])) .nil
def k_66_figures_2 : Ss := .cons (.set 2 (.bin .add (.bin .add (.str [49]) (.bin .mul (.str [48]) (.var 1))) (.strI (.call 1908 (.cons (.var 0) (.cons (.call 1010 (.cons (.var 1) .nil) []) .nil)) [])))) k_66_figures_1
def k_66_figures_3 : Ss := .cons (.ite (.cmp .eq (.var 1) (.int 0)) (.cons (.ret (.str [])) .nil) .nil) k_66_figures_2
def ir_66_figures : Fd := ⟨2, 3, k_66_figures_3⟩
def k_66_text_1 : Ss := .cons (.ret (.tup (.cons (.var 8) (.cons (.call 1012 (.cons (.var 7) (.cons (.bin .sub (.intt (.ite (.cmp .ne (.var 5) (.str [])) (.sslF (.var 5) (.int 1)) (.str [48]))) (.var 2)) .nil)) []) .nil)))) .nil
def k_66_text_2 : Ss := .cons (.set 8 (.bin .add (.bin .add (.bin .add (.var 6) (.var 3)) (.ite (.cmp .ne (.var 4) (.str [])) (.bin .add (.str [46]) (.var 4)) (.str []))) (.var 5))) k_66_text_1
def k_66_text_3 : Ss := .cons (.set 7 (.intt (.bin .add (.bin .add (.var 6) (.var 3)) (.var 4)))) k_66_text_2
def k_66_text_4 : Ss := .cons (.set 6 (.call 1902 (.cons (.var 0) (.cons (.lst (.cons (.str []) (.cons (.str []) (.cons (.str [45]) .nil)))) .nil)) [])) k_66_text_3
def k_66_text_5 : Ss := .cons (.set 5 (.call 1902 (.cons (.var 0) (.cons (.lst (.cons (.str []) (.cons (.str []) (.cons (.bin .add (.str [101]) (.strI (.call 1900 (.cons (.var 0) (.cons (.int 40) .nil)) []))) (.cons (.bin .add (.str [101, 45]) (.strI (.call 1900 (.cons (.var 0) (.cons (.int 1000) .nil)) []))) (.cons (.str [101, 48, 48, 55]) (.cons (.str [101, 45, 48]) (.cons (.str [101, 57, 57, 57]) (.cons (.str [101, 48, 48]) (.cons (.str [101, 45, 53, 48]) .nil)))))))))) .nil)) [])) k_66_text_4
def k_66_text_6 : Ss := .cons (.setP 3 4 (.call 1011 (.cons (.var 0) (.cons (.bin .sub (.var 1) (.var 2)) .nil)) []) (.call 1011 (.cons (.var 0) (.cons (.var 2) .nil)) [])) k_66_text_5
def k_66_text_7 : Ss := .cons (.set 2 (.call 1902 (.cons (.var 0) (.cons (.lst (.cons (.int 0) (.cons (.int 0) (.cons (.call 1900 (.cons (.var 0) (.cons (.var 1) .nil)) []) (.cons (.bin .sub (.var 1) (.int 1)) .nil))))) .nil)) [])) k_66_text_6
def k_66_text_8 : Ss := .cons (.set 1 (.bin .add (.int 1) (.call 1902 (.cons (.var 0) (.cons (.lst (.cons (.int 0) (.cons (.int 1) (.cons (.int 2) (.cons (.call 1900 (.cons (.var 0) (.cons (.int 30) .nil)) []) (.cons (.int 99) .nil)))))) .nil)) []))) k_66_text_7
def ir_66_text : Fd := ⟨1, 9, k_66_text_8⟩
def ir_66_said : Fd := ⟨1, 3, (.cons (.try_ (.cons (.ret (.act 0)) .nil) (.cons 5 (some 1) (.cons (.set 2 (.lst (.cons (.isx 1 4) (.cons (.isx 1 0) (.cons (.isx 1 1) .nil))))) (.cons (.set 2 (.bin .add (.var 2) (.lst (.cons (.isx 1 8) (.cons (.isx 1 7) (.cons (.isx 1 6) .nil)))))) (.cons (.ite (.ors (.cons (.cmp .ne (.cntB (.var 2)) (.int 1)) (.cons (.not (.isxA 1)) .nil))) (.cons (.ret (.str [111, 116, 104, 101, 114])) .nil) .nil) (.cons (.ite (.ors (.cons (.idx (.var 2) (.int 0)) (.cons (.idx (.var 2) (.int 1)) .nil))) (.cons (.ret (.ite (.idx (.var 2) (.int 0)) (.tup (.cons (.str [111, 118, 101, 114]) (.cons (.xfld 1 [8, 4]) .nil))) (.tup (.cons (.str [98, 111, 117, 110, 100]) (.cons (.xfld 1 [0]) .nil))))) .nil) .nil) (.cons (.ite (.ors (.cons (.idx (.var 2) (.int 2)) (.cons (.idx (.var 2) (.int 3)) .nil))) (.cons (.ret (.ite (.idx (.var 2) (.int 2)) (.tup (.cons (.str [102, 111, 114, 109, 97, 116]) (.cons (.xfld 1 [1]) .nil))) (.tup (.cons (.str [116, 101, 120, 116]) (.cons (.xfld 1 [8, 4]) .nil))))) .nil) .nil) (.cons (.ret (.ite (.idx (.var 2) (.int 4)) (.tup (.cons (.str [99, 97, 108, 108]) (.cons (.xfld 1 [7]) .nil))) (.tup (.cons (.str [108, 105, 109, 105, 116]) (.cons (.xfld 1 [6]) .nil))))) .nil)))))) .nil)) .nil)⟩
end FF
namespace FF
/-! ### k66: drawn texts -/
theorem log_ok {n k : Nat} (h : n < 2 ^ k) (k0 : 0 < k) : n.log2 < k := by
  by_cases c : n = 0
  · subst c
    rw [Nat.log2_zero]
    exact k0
  · exact (Nat.log2_lt c).mpr h
def sp_66_wide : Spec := fun ds h Q _ => ∃ (w k : Nat) (m : Int), ds = [.ref w, .int m] ∧ 0 < m ∧ m ≤ 10 ^ 100 ∧ Wel k h w ∧ k + 20 < 1073741824 ∧ ∀ x h', 0 ≤ x → x < m → Wel (k + 12) h' w → Fr w h h' → Q (.int x) h'
theorem b_66_wide {Γ : Gam} (hd : Γ.fn 1900 = sp_draw) : BodyOk Γ ir_66_wide sp_66_wide := by
  rintro ds h Q R ⟨w, k, m, rfl, m0, m1, wk, hk, q⟩
  refine ⟨rfl, ?_⟩
  show wpSs Γ ir_66_wide.body [.val (.ref w), .val (.int m), .un, .un] h (PBd Q R)
  simp only [ir_66_wide, k_66_wide_4, wpSs, wpS, wpE, wpEs, wpAnd, wpOr, wpI, wpF, wpT, wpH, Env.at, Env.put, Env.wipe, Env.nox, Slot.nox, wBin, binI, wCmp, cmpI, wBi, isTy, asL, asLT, bindT, bindTs, intsOf, boolsOf, atInt, ixL0, ixL1, ixL2, List.getElem?_cons_zero, List.getElem?_cons_succ, List.nil_append, List.cons_append, List.append_nil, if_true, ite_true]
  refine ⟨(show 2 ≤ SL by decide), ?_⟩
  simp only [k_66_wide_3, wpSs, wpS, wpE, wpEs, wpAnd, wpOr, wpI, wpF, wpT, wpH, Env.at, Env.put, Env.wipe, Env.nox, Slot.nox, wBin, binI, wCmp, cmpI, wBi, isTy, asL, asLT, bindT, bindTs, intsOf, boolsOf, atInt, ixL0, ixL1, ixL2, List.getElem?_cons_zero, List.getElem?_cons_succ, List.nil_append, List.cons_append, List.append_nil, if_true, ite_true]
  refine ⟨fun n σ h' => ∃ (f b : Int), σ = [.val (.ref w), .val (.int m), .val (.int f), .val (.int b)] ∧ n ≤ 12 ∧ b = 1000000000 ^ (12 - n) ∧ 0 ≤ f ∧ f < b ∧ Wel (k + (12 - n)) h' w ∧ Fr w h h', ⟨12, 0, 1, rfl, Nat.le_refl _, rfl, by decide, by decide, wk.mono (by omega), Fr.refl⟩, ?_⟩
  rintro n σ h' ⟨f, b, rfl, n4, eb, f0, f1, w1, fr⟩
  simp only [wpSs, wpS, wpE, wpEs, wpAnd, wpOr, wpI, wpF, wpT, wpH, Env.at, Env.put, Env.wipe, Env.nox, Slot.nox, wBin, binI, wCmp, cmpI, wBi, isTy, asL, asLT, bindT, bindTs, intsOf, boolsOf, atInt, ixL0, ixL1, ixL2, List.getElem?_cons_zero, List.getElem?_cons_succ, List.nil_append, List.cons_append, List.append_nil, if_true, ite_true]
  have bp : Sz 370 b := by
    have a : Sz (30 * (12 - n)) ((1000000000 : Int) ^ (12 - n) - 1) := by
      generalize 12 - n = j
      have : ∀ j : Nat, (1000000000 : Int) ^ j ≤ 2 ^ (30 * j) := fun j => by
        induction j with
        | zero => exact Int.le_refl _
        | succ j ih =>
          rw [Int.pow_succ, show 30 * (j + 1) = 30 * j + 30 by omega, Int.pow_add]
          exact Int.mul_le_mul ih (by decide) (by decide) (Int.le_of_lt (two_pos _))
      have h1 := this j
      have h2 : (0 : Int) < 1000000000 ^ j := Int.pow_pos (by decide)
      unfold Sz
      have e : ((2 ^ (30 * j) : Nat) : Int) = 2 ^ (30 * j) := by rw [Int.natCast_pow]; rfl
      omega
    have a := a.mono (q := 369) (by omega)
    have e2 : (2 : Nat) ^ 369 + 1 ≤ 2 ^ 370 := by decide +kernel
    unfold Sz at *
    omega
  have fp : Sz 370 f := by unfold Sz at *; omega
  by_cases c : b < m
  · rw [if_pos (decide_eq_true c)]
    have n0 : n ≠ 0 := fun z => by
      subst z
      rw [eb] at c
      have : (10 : Int) ^ 100 ≤ 1000000000 ^ (12 - 0) := by decide +kernel
      omega
    have t9 : (10 : Int) ^ (Int.toNat 9) = 1000000000 := rfl
    simp only [k_66_wide_1, wpSs, wpS, wpE, wpEs, wpAnd, wpOr, wpI, wpF, wpT, wpH, Env.at, Env.put, Env.wipe, Env.nox, Slot.nox, wBin, binI, wCmp, cmpI, wBi, isTy, asL, asLT, bindT, bindTs, intsOf, boolsOf, atInt, ixL0, ixL1, ixL2, List.getElem?_cons_zero, List.getElem?_cons_succ, List.nil_append, List.cons_append, List.append_nil, if_true, ite_true, t9, hd]
    refine ⟨by decide, mul_ok fp (show Sz 30 1000000000 by unfold Sz; decide) (by decide), by decide, w, 1000000000, _, rfl, by decide, by decide, w1, by omega, fun x h2 x0 x1 w2 fr2 => ?_⟩
    refine ⟨by decide, mul_ok bp (show Sz 30 1000000000 by unfold Sz; decide) (by decide), n - 1, by omega, _, _, rfl, by omega, ?_, by omega, by omega, ?_, fr.trans fr2⟩
    · rw [eb, show 12 - (n - 1) = (12 - n) + 1 by omega, Int.pow_succ]
    · rw [show k + (12 - (n - 1)) = k + (12 - n) + 1 by omega]
      exact w2
  · rw [if_neg (by simpa using c)]
    simp only [k_66_wide_2, wpSs, wpS, wpE, wpEs, wpAnd, wpOr, wpI, wpF, wpT, wpH, Env.at, Env.put, Env.wipe, Env.nox, Slot.nox, wBin, binI, wCmp, cmpI, wBi, isTy, asL, asLT, bindT, bindTs, intsOf, boolsOf, atInt, ixL0, ixL1, ixL2, List.getElem?_cons_zero, List.getElem?_cons_succ, List.nil_append, List.cons_append, List.append_nil, if_true, ite_true]
    refine ⟨by omega, ?_⟩
    rw [fmod_pos m0]
    exact q _ h' (Int.emod_nonneg _ (by omega)) (Int.emod_lt_of_pos _ m0) (w1.mono (by omega)) fr
theorem zeros_flat {k : Nat} {c : Nat} : (List.replicate k [c]).flatten = List.replicate k c := by
  induction k with
  | zero => rfl
  | succ k ih => rw [List.replicate_succ, List.flatten_cons, ih, List.replicate_succ]; rfl
theorem rep_dig {k c : Nat} (h : 48 ≤ c ∧ c < 58) : digS (List.replicate k c) = true := List.all_eq_true.mpr fun x m => by
  rw [List.eq_of_mem_replicate m]
  exact decide_eq_true h
theorem ten_text66 {k : Nat} : decN (49 :: List.replicate k 48) = 10 ^ k := by
  show (List.replicate k 48).foldl (fun a c => a * 10 + (c - 48)) (0 * 10 + (49 - 48)) = 10 ^ k
  have : ∀ (j a : Nat), (List.replicate j 48).foldl (fun a c => a * 10 + (c - 48)) a = a * 10 ^ j := fun j => by
    induction j with
    | zero => intro a; simp
    | succ j ih =>
      intro a
      rw [List.replicate_succ, List.foldl_cons, ih, Nat.pow_succ]
      show (a * 10 + 0) * 10 ^ j = _
      rw [Nat.add_zero, Nat.mul_assoc, Nat.mul_comm 10]
  rw [this]
  omega
def sp_66_tens : Spec := fun ds h Q _ => ∃ m : Nat, ds = [.int m] ∧ m ≤ 600 ∧ Q (.int (10 ^ m)) h
theorem b_66_tens {Γ : Gam} : BodyOk Γ ir_66_tens sp_66_tens := by
  rintro ds h Q R ⟨m, rfl, ml, q⟩
  refine ⟨rfl, ?_⟩
  show wpSs Γ ir_66_tens.body [.val (.int m)] h (PBd Q R)
  have SLe : SL = 16777216 := rfl
  simp only [ir_66_tens, wpSs, wpS, wpE, wpEs, wpAnd, wpOr, wpI, wpF, wpT, wpH, Env.at, Env.put, Env.wipe, Env.nox, Slot.nox, wBin, binI, wCmp, cmpI, wBi, isTy, asL, asLT, bindT, bindTs, intsOf, boolsOf, atInt, ixL0, ixL1, ixL2, List.getElem?_cons_zero, List.getElem?_cons_succ, List.nil_append, List.cons_append, List.append_nil, if_true, ite_true]
  rw [Int.toNat_natCast, zeros_flat]
  have d : digS (49 :: List.replicate m 48) = true := by
    have := rep_dig (k := m) (c := 48) (by decide)
    unfold digS at *
    rw [List.all_cons, this]; rfl
  have e : ((decN (49 :: List.replicate m 48) : Nat) : Int) = 10 ^ m := by
    rw [ten_text66, Int.natCast_pow]
    rfl
  refine ⟨⟨by omega, by omega, by decide⟩, by rw [List.length_replicate]; show 1 + m ≤ SL; omega, ⟨List.cons_ne_nil _ _, by show (49 :: List.replicate m 48).length ≤ 640; rw [List.length_cons, List.length_replicate]; omega, d⟩, ?_⟩
  show Q (.int ((decN (49 :: List.replicate m 48) : Nat) : Int)) h
  rw [e]
  exact q
def sp_66_reduced : Spec := fun ds h Q _ => ∃ n k, ds = [.int n, .int k] ∧ ∀ r, RedD n k r → Q (num r) h
theorem b_66_reduced {Γ : Gam} : BodyOk Γ ir_66_reduced sp_66_reduced := by
  rintro ds h Q R ⟨n, k, rfl, q⟩
  refine ⟨rfl, ?_⟩
  show wpSs Γ ir_66_reduced.body [.val (.int n), .val (.int k)] h (PBd Q R)
  have t10 : (0 : Int) < 10 := by decide
  simp only [ir_66_reduced, k_66_reduced_3, wpSs, wpS, wpE, wpEs, wpAnd, wpOr, wpI, wpF, wpT, wpH, Env.at, Env.put, Env.wipe, Env.nox, Slot.nox, wBin, binI, wCmp, cmpI, wBi, isTy, asL, asLT, bindT, bindTs, intsOf, boolsOf, atInt, ixL0, ixL1, ixL2, List.getElem?_cons_zero, List.getElem?_cons_succ, List.nil_append, List.cons_append, List.append_nil, if_true, ite_true]
  refine ⟨fun m σ h' => ∃ (x : Int) (j : Nat), σ = [.val (.int x), .val (.int (k + j))] ∧ h' = h ∧ n = x * 10 ^ j ∧ m = x.natAbs, ⟨_, n, 0, by rw [show k + ((0 : Nat) : Int) = k by omega], rfl, by rw [Int.pow_zero, Int.mul_one], rfl⟩, ?_⟩
  rintro m σ h' ⟨x, j, rfl, rfl, e, rfl⟩
  simp only [wpSs, wpS, wpE, wpEs, wpAnd, wpOr, wpI, wpF, wpT, wpH, Env.at, Env.put, Env.wipe, Env.nox, Slot.nox, wBin, binI, wCmp, cmpI, wBi, isTy, asL, asLT, bindT, bindTs, intsOf, boolsOf, atInt, ixL0, ixL1, ixL2, List.getElem?_cons_zero, List.getElem?_cons_succ, List.nil_append, List.cons_append, List.append_nil, if_true, ite_true]
  refine ⟨ok_int, ?_⟩
  rw [eqb_ints]
  by_cases c : x = 0
  · rw [decide_eq_true c]
    simp only [Bool.not_true, Bool.false_eq_true, if_false]
    simp only [k_66_reduced_2, wpSs, wpS, wpE, wpEs, wpAnd, wpOr, wpI, wpF, wpT, wpH, Env.at, Env.put, Env.wipe, Env.nox, Slot.nox, wBin, binI, wCmp, cmpI, wBi, isTy, asL, asLT, bindT, bindTs, intsOf, boolsOf, atInt, ixL0, ixL1, ixL2, List.getElem?_cons_zero, List.getElem?_cons_succ, List.nil_append, List.cons_append, List.append_nil, if_true, ite_true]
    refine ⟨ok_int, ?_⟩
    rw [eqb_ints, decide_eq_true c]
    simp only [Bool.not_true, Bool.false_eq_true, if_false]
    refine ⟨(show 2 ≤ SL by decide), q (0, 0) (.inl ⟨?_, rfl⟩)⟩
    rw [e, c, Int.zero_mul]
  · rw [decide_eq_false c]
    simp only [Bool.not_false, if_true]
    refine ⟨by decide, ok_int, ?_⟩
    rw [eqb_ints, fmod_pos t10]
    by_cases d : x % 10 = 0
    · rw [if_pos (decide_eq_true d)]
      simp only [k_66_reduced_1, wpSs, wpS, wpE, wpEs, wpAnd, wpOr, wpI, wpF, wpT, wpH, Env.at, Env.put, Env.wipe, Env.nox, Slot.nox, wBin, binI, wCmp, cmpI, wBi, isTy, asL, asLT, bindT, bindTs, intsOf, boolsOf, atInt, ixL0, ixL1, ixL2, List.getElem?_cons_zero, List.getElem?_cons_succ, List.nil_append, List.cons_append, List.append_nil, if_true, ite_true, fdiv_pos t10]
      have dv : x = x / 10 * 10 := by
        have := Int.ediv_mul_add_emod x 10
        omega
      refine ⟨⟨by decide, by decide⟩, _, ?_, x / 10, j + 1, ?_, trivial, ?_, rfl⟩
      · omega
      · rw [show k + ((j + 1 : Nat) : Int) = k + (j : Int) + 1 by omega]
      · rw [e, Int.pow_succ]
        conv => lhs; rw [dv]
        ac_rfl
    · rw [if_neg (by rw [decide_eq_true_iff]; exact d)]
      simp only [k_66_reduced_2, wpSs, wpS, wpE, wpEs, wpAnd, wpOr, wpI, wpF, wpT, wpH, Env.at, Env.put, Env.wipe, Env.nox, Slot.nox, wBin, binI, wCmp, cmpI, wBi, isTy, asL, asLT, bindT, bindTs, intsOf, boolsOf, atInt, ixL0, ixL1, ixL2, List.getElem?_cons_zero, List.getElem?_cons_succ, List.nil_append, List.cons_append, List.append_nil, if_true, ite_true]
      refine ⟨ok_int, ?_⟩
      rw [eqb_ints, decide_eq_false c]
      simp only [Bool.not_false, if_true]
      refine ⟨(show 2 ≤ SL by decide), q (x, k + j) (RedD.loop (fun z => ?_) e d)⟩
      rw [z] at e
      rcases Int.mul_eq_zero.mp e.symm with y | y
      · exact c y
      · have := ten_pos j
        omega
def sp_66_figures : Spec := fun ds h Q _ => ∃ (w k m : Nat), ds = [.ref w, .int m] ∧ m ≤ 100 ∧ Wel k h w ∧ k + 100 < 1073741824 ∧ ∀ t h', t.length = m → digS t = true → Wel (k + 14) h' w → Fr w h h' → Q (.str t) h'
theorem b_66_figures {Γ : Gam} (ho : Γ.fn 1902 = sp_one) (hw : Γ.fn 1908 = sp_66_wide) (ht : Γ.fn 1010 = sp_66_tens) : BodyOk Γ ir_66_figures sp_66_figures := by
  rintro ds h Q R ⟨w, k, m, rfl, ml, wk, hk, q⟩
  refine ⟨rfl, ?_⟩
  show wpSs Γ ir_66_figures.body [.val (.ref w), .val (.int m), .un] h (PBd Q R)
  have SLe : SL = 16777216 := rfl
  simp only [ir_66_figures, k_66_figures_3, wpSs, wpS, wpE, wpEs, wpAnd, wpOr, wpI, wpF, wpT, wpH, Env.at, Env.put, Env.wipe, Env.nox, Slot.nox, wBin, binI, wCmp, cmpI, wBi, isTy, asL, asLT, bindT, bindTs, intsOf, boolsOf, atInt, ixL0, ixL1, ixL2, List.getElem?_cons_zero, List.getElem?_cons_succ, List.nil_append, List.cons_append, List.append_nil, if_true, ite_true]
  refine ⟨ok_int, ?_⟩
  rw [eqb_ints]
  by_cases c : m = 0
  · rw [if_pos (decide_eq_true (show (m : Int) = 0 by omega))]
    exact q [] h (by rw [c]; rfl) rfl (wk.mono (by omega)) Fr.refl
  rw [if_neg (by rw [decide_eq_true_iff]; omega)]
  simp only [k_66_figures_2, wpSs, wpS, wpE, wpEs, wpAnd, wpOr, wpI, wpF, wpT, wpH, Env.at, Env.put, Env.wipe, Env.nox, Slot.nox, wBin, binI, wCmp, cmpI, wBi, isTy, asL, asLT, bindT, bindTs, intsOf, boolsOf, atInt, ixL0, ixL1, ixL2, List.getElem?_cons_zero, List.getElem?_cons_succ, List.nil_append, List.cons_append, List.append_nil, if_true, ite_true, hw, ht]
  rw [Int.toNat_natCast, zeros_flat]
  have tp : (0 : Int) < 10 ^ m := ten_pos m
  have tl : (10 : Int) ^ m ≤ 10 ^ 100 := by
    obtain ⟨d, hd⟩ : ∃ d, 100 = m + d := ⟨100 - m, by omega⟩
    rw [hd, Int.pow_add]
    have := Int.mul_le_mul_of_nonneg_left (show (1 : Int) ≤ 10 ^ d by have := ten_pos d; omega) (Int.le_of_lt tp)
    omega
  refine ⟨⟨by omega, by omega, by decide⟩, by rw [List.length_replicate]; show 1 + m ≤ SL; omega, m, rfl, by omega, w, k, _, rfl, tp, tl, wk, by omega, fun x h1 x0 x1 w1 f1 => ?_⟩
  have xn : x.natAbs < 10 ^ m := by
    have e : ((10 ^ m : Nat) : Int) = 10 ^ m := by rw [Int.natCast_pow]; rfl
    omega
  have dx : digZ x = digN x.natAbs := by unfold digZ; rw [if_neg (by omega)]
  have lx : (digN x.natAbs).length ≤ m := by
    obtain ⟨d, rfl⟩ : ∃ d, m = d + 1 := ⟨m - 1, by omega⟩
    exact digN_len xn
  have big : (10 : Nat) ^ m < 2 ^ 1920 := by
    have a : (10 : Nat) ^ m ≤ 10 ^ 100 := Nat.pow_le_pow_right (by decide) ml
    have b : (10 : Nat) ^ 100 < 2 ^ 1920 := by decide +kernel
    omega
  dsimp only
  rw [dx]
  refine ⟨log_ok (by omega) (by decide), ?_, ?_⟩
  · rw [List.length_cons, List.length_replicate]
    omega
  have dF : digS (49 :: (List.replicate m 48 ++ digN x.natAbs)) = true := by
    have a := rep_dig (k := m) (c := 48) (by decide)
    have b := digN_dig (n := x.natAbs)
    unfold digS at *
    rw [List.all_cons, List.all_append, a, b]; rfl
  have lF : (49 :: (List.replicate m 48 ++ digN x.natAbs)).length = 1 + m + (digN x.natAbs).length := by rw [List.length_cons, List.length_append, List.length_replicate]; omega
  generalize 49 :: (List.replicate m 48 ++ digN x.natAbs) = F at *
  simp only [k_66_figures_1, wpSs, wpS, wpE, wpEs, wpAnd, wpOr, wpI, wpF, wpT, wpH, Env.at, Env.put, Env.wipe, Env.nox, Slot.nox, wBin, binI, wCmp, cmpI, wBi, isTy, asL, asLT, bindT, bindTs, intsOf, boolsOf, atInt, ixL0, ixL1, ixL2, List.getElem?_cons_zero, List.getElem?_cons_succ, List.nil_append, List.cons_append, List.append_nil, if_true, ite_true, ho]
  have sl : slP F.length (0 - (m : Int)) = F.length - m := by
    unfold slP
    rw [if_neg (by omega)]
    omega
  rw [sl, Int.toNat_natCast, zeros_flat, zeros_flat, show ((m : Int) - 1).toNat = m - 1 by omega, zeros_flat]
  refine ⟨by omega, ⟨by omega, by omega, by decide⟩, ⟨by omega, by omega, by decide⟩, ⟨by omega, by omega, by decide⟩, by rw [List.length_replicate]; show m - 1 + 1 ≤ SL; omega, (show 4 ≤ SL by decide), w, _, _, rfl, (show 0 < 4 by decide), (show 4 < 100000 by decide), w1, by omega, fun d h2 hd w2 f2 => ?_⟩
  have fin : ∀ t : List Nat, t.length = m → digS t = true → Q (.str t) h2 := fun t l d => q t h2 l d (w2.mono (by omega)) (f1.trans f2)
  have hd : d = .str (F.drop (F.length - m)) ∨ d = .str (List.replicate m 48) ∨ d = .str (List.replicate m 57) ∨ d = .str (List.replicate (m - 1) 48 ++ [53]) := by simpa using hd
  rcases hd with rfl | rfl | rfl | rfl
  · refine fin _ (by rw [List.length_drop]; omega) ?_
    exact List.all_eq_true.mpr fun c m => List.all_eq_true.mp dF c (List.mem_of_mem_drop m)
  · exact fin _ List.length_replicate (rep_dig (by decide))
  · exact fin _ List.length_replicate (rep_dig (by decide))
  · refine fin _ (by rw [List.length_append, List.length_replicate]; show m - 1 + 1 = m; omega) ?_
    have a := rep_dig (k := m - 1) (c := 48) (by decide)
    unfold digS at *
    rw [List.all_append, a]; rfl
end FF
namespace FF
/-! ### k66: a drawn text -/
/-- the part behind the figures -/
def TlOk (tl : List Nat) (kt : Int) : Prop := (tl = [] ∧ kt = 0) ∨ ∃ es E, tl = 101 :: (es ++ E) ∧ ((es = [] ∧ kt = (decN E : Int)) ∨ (es = [45] ∧ kt = -(decN E : Int))) ∧ digS E = true ∧ E ≠ [] ∧ E.length ≤ 3
theorem TlOk.int {tl : List Nat} {kt : Int} (t : TlOk tl kt) : intZ (if tl ≠ [] then tl.drop 1 else [48]) = some kt := by
  rcases t with ⟨rfl, rfl⟩ | ⟨es, E, rfl, hk, dE, nE, lE⟩
  · rfl
  · rw [if_pos (by simp)]
    show intZ (es ++ E) = _
    rcases hk with ⟨rfl, rfl⟩ | ⟨rfl, rfl⟩
    · exact intZ_dig nE dE
    · exact intZ_neg nE dE
theorem TlOk.len {tl : List Nat} {kt : Int} (t : TlOk tl kt) : tl.length ≤ 5 ∧ CpS tl := by
  rcases t with ⟨rfl, rfl⟩ | ⟨es, E, rfl, hk, dE, nE, lE⟩
  · exact ⟨by decide, rfl⟩
  · have c1 : CpS (101 :: (es ++ E)) := by
      have : CpS es := by rcases hk with ⟨rfl, _⟩ | ⟨rfl, _⟩ <;> rfl
      exact CpS.app (s := [101]) rfl (this.app (CpS.dig dE))
    refine ⟨?_, c1⟩
    rw [List.length_cons, List.length_append]
    rcases hk with ⟨rfl, _⟩ | ⟨rfl, _⟩
    · show 0 + _ + 1 ≤ 5; omega
    · show 1 + _ + 1 ≤ 5; omega
theorem digN_len3 {d : Int} (h0 : 0 ≤ d) (h : d < 1000) : digZ d = digN d.natAbs ∧ (digN d.natAbs).length ≤ 3 ∧ (decN (digN d.natAbs) : Int) = d := by
  refine ⟨?_, digN_len (k := 2) (by show d.natAbs < 1000; omega), ?_⟩
  · unfold digZ
    rw [if_neg (by omega)]
  · rw [digN_val]
    omega
def sp_66_text : Spec := fun ds h Q _ => ∃ (w k : Nat), ds = [.ref w] ∧ Wel k h w ∧ k + 200 < 1073741824 ∧ ∀ (s : List Nat) n kk r h', rdT s = .inl (n, kk) → RedD n kk r → s.length ≤ 300 → CpS s → Wel (k + 100) h' w → Fr w h h' → Q (.tup [.str s, num r]) h'
theorem b_66_text {Γ : Gam} (hd : Γ.fn 1900 = sp_draw) (ho : Γ.fn 1902 = sp_one) (hf : Γ.fn 1011 = sp_66_figures) (hr : Γ.fn 1012 = sp_66_reduced) : BodyOk Γ ir_66_text sp_66_text := by
  rintro ds h Q R ⟨w, k, rfl, wk, hk, q⟩
  refine ⟨rfl, ?_⟩
  show wpSs Γ ir_66_text.body [.val (.ref w), .un, .un, .un, .un, .un, .un, .un, .un] h (PBd Q R)
  have SLe : SL = 16777216 := rfl
  simp only [ir_66_text, k_66_text_8, wpSs, wpS, wpE, wpEs, wpAnd, wpOr, wpI, wpF, wpT, wpH, Env.at, Env.put, Env.wipe, Env.nox, Slot.nox, wBin, binI, wCmp, cmpI, wBi, isTy, asL, asLT, bindT, bindTs, intsOf, boolsOf, atInt, ixL0, ixL1, ixL2, List.getElem?_cons_zero, List.getElem?_cons_succ, List.nil_append, List.cons_append, List.append_nil, if_true, ite_true, hd, ho]
  refine ⟨w, 30, k, rfl, by decide, by decide, wk, by omega, fun x1 h1 a1 b1 w1 f1 => ⟨(show 5 ≤ SL by decide), ?_⟩⟩
  refine ⟨w, _, _, rfl, (show 0 < 5 by decide), (show 5 < 100000 by decide), w1, by omega, fun d h2 hd2 w2 f2 => ?_⟩
  obtain ⟨c, rfl, c0, c1⟩ : ∃ c : Int, d = .int c ∧ 0 ≤ c ∧ c ≤ 99 := by
    have : d = .int 0 ∨ d = .int 1 ∨ d = .int 2 ∨ d = .int x1 ∨ d = .int 99 := by simpa using hd2
    rcases this with rfl | rfl | rfl | rfl | rfl
    · exact ⟨_, rfl, by decide, by decide⟩
    · exact ⟨_, rfl, by decide, by decide⟩
    · exact ⟨_, rfl, by decide, by decide⟩
    · exact ⟨_, rfl, by omega, by omega⟩
    · exact ⟨_, rfl, by decide, by decide⟩
  obtain ⟨m, hm⟩ : ∃ m : Nat, (1 : Int) + c = m := ⟨(1 + c).toNat, by omega⟩
  dsimp only
  rw [hm]
  have m1 : 1 ≤ m := by omega
  have m100 : m ≤ 100 := by omega
  simp only [k_66_text_7, wpSs, wpS, wpE, wpEs, wpAnd, wpOr, wpI, wpF, wpT, wpH, Env.at, Env.put, Env.wipe, Env.nox, Slot.nox, wBin, binI, wCmp, cmpI, wBi, isTy, asL, asLT, bindT, bindTs, intsOf, boolsOf, atInt, ixL0, ixL1, ixL2, List.getElem?_cons_zero, List.getElem?_cons_succ, List.nil_append, List.cons_append, List.append_nil, if_true, ite_true, hd, ho]
  refine ⟨w, (m : Int), _, rfl, by omega, Nat.le_trans (bitsI_le (p := 20) (by unfold Sz; omega)) (by decide), w2, by omega, fun x2 h3 a2 b2 w3 f3 => ⟨(show 4 ≤ SL by decide), ?_⟩⟩
  refine ⟨w, _, _, rfl, (show 0 < 4 by decide), (show 4 < 100000 by decide), w3, by omega, fun d h4 hd4 w4 f4 => ?_⟩
  obtain ⟨p, rfl, pm⟩ : ∃ p : Nat, d = .int (p : Int) ∧ p < m := by
    have : d = .int 0 ∨ d = .int 0 ∨ d = .int x2 ∨ d = .int ((m : Int) - 1) := by simpa using hd4
    rcases this with rfl | rfl | rfl | rfl
    · exact ⟨0, rfl, by omega⟩
    · exact ⟨0, rfl, by omega⟩
    · exact ⟨x2.toNat, by rw [show (x2.toNat : Int) = x2 by omega], by omega⟩
    · exact ⟨m - 1, by rw [show ((m - 1 : Nat) : Int) = (m : Int) - 1 by omega], by omega⟩
  simp only [k_66_text_6, wpSs, wpS, wpE, wpEs, wpAnd, wpOr, wpI, wpF, wpT, wpH, Env.at, Env.put, Env.wipe, Env.nox, Slot.nox, wBin, binI, wCmp, cmpI, wBi, isTy, asL, asLT, bindT, bindTs, intsOf, boolsOf, atInt, ixL0, ixL1, ixL2, List.getElem?_cons_zero, List.getElem?_cons_succ, List.nil_append, List.cons_append, List.append_nil, if_true, ite_true, hf]
  rw [show (m : Int) - (p : Int) = ((m - p : Nat) : Int) by omega]
  refine ⟨w, _, m - p, rfl, by omega, w4, by omega, fun W h5 lW dW w5 f5 => ?_⟩
  refine ⟨w, _, p, rfl, by omega, w5, by omega, fun P h6 lP dP w6 f6 => ?_⟩
  simp only [k_66_text_5, wpSs, wpS, wpE, wpEs, wpAnd, wpOr, wpI, wpF, wpT, wpH, Env.at, Env.put, Env.wipe, Env.nox, Slot.nox, wBin, binI, wCmp, cmpI, wBi, isTy, asL, asLT, bindT, bindTs, intsOf, boolsOf, atInt, ixL0, ixL1, ixL2, List.getElem?_cons_zero, List.getElem?_cons_succ, List.nil_append, List.cons_append, List.append_nil, if_true, ite_true, hd, ho]
  have sm : ∀ x : Int, 0 ≤ x → x < 1000 → x.natAbs.log2 < 1920 := fun x x0 xl => log_ok (by
    have : (1000 : Nat) < 2 ^ 1920 := by decide +kernel
    omega) (by decide)
  refine ⟨w, 40, _, rfl, by decide, by decide, w6, by omega, fun y1 h7 a7 b7 w7 f7 => ?_⟩
  obtain ⟨z1, z2, z3⟩ := digN_len3 a7 (by omega)
  refine ⟨sm y1 a7 (by omega), by rw [z1]; show 1 + _ ≤ SL; omega, ?_⟩
  refine ⟨w, 1000, _, rfl, by decide, by decide, w7, by omega, fun y2 h8 a8 b8 w8 f8 => ?_⟩
  obtain ⟨v1, v2, v3⟩ := digN_len3 a8 b8
  refine ⟨sm y2 a8 b8, by rw [v1]; show 2 + _ ≤ SL; omega, (show 9 ≤ SL by decide), ?_⟩
  refine ⟨w, _, _, rfl, (show 0 < 9 by decide), (show 9 < 100000 by decide), w8, by omega, fun d h9 hd9 w9 f9 => ?_⟩
  obtain ⟨tl, kt, rfl, tk⟩ : ∃ tl kt, d = .str tl ∧ TlOk tl kt := by
    rw [z1, v1] at hd9
    have : d = .str [] ∨ d = .str [] ∨ d = .str (101 :: digN y1.natAbs) ∨ d = .str (101 :: 45 :: digN y2.natAbs) ∨ d = .str [101, 48, 48, 55] ∨ d = .str [101, 45, 48] ∨ d = .str [101, 57, 57, 57] ∨ d = .str [101, 48, 48] ∨ d = .str [101, 45, 53, 48] := by simpa using hd9
    rcases this with rfl | rfl | rfl | rfl | rfl | rfl | rfl | rfl | rfl
    · exact ⟨[], 0, rfl, .inl ⟨rfl, rfl⟩⟩
    · exact ⟨[], 0, rfl, .inl ⟨rfl, rfl⟩⟩
    · exact ⟨_, _, rfl, .inr ⟨[], digN y1.natAbs, rfl, .inl ⟨rfl, rfl⟩, digN_dig, digN_ne, z2⟩⟩
    · exact ⟨_, _, rfl, .inr ⟨[45], digN y2.natAbs, rfl, .inr ⟨rfl, rfl⟩, digN_dig, digN_ne, v2⟩⟩
    · exact ⟨_, _, rfl, .inr ⟨[], [48, 48, 55], rfl, .inl ⟨rfl, rfl⟩, by decide, by simp, by decide⟩⟩
    · exact ⟨_, _, rfl, .inr ⟨[45], [48], rfl, .inr ⟨rfl, rfl⟩, by decide, by simp, by decide⟩⟩
    · exact ⟨_, _, rfl, .inr ⟨[], [57, 57, 57], rfl, .inl ⟨rfl, rfl⟩, by decide, by simp, by decide⟩⟩
    · exact ⟨_, _, rfl, .inr ⟨[], [48, 48], rfl, .inl ⟨rfl, rfl⟩, by decide, by simp, by decide⟩⟩
    · exact ⟨_, _, rfl, .inr ⟨[45], [53, 48], rfl, .inr ⟨rfl, rfl⟩, by decide, by simp, by decide⟩⟩
  obtain ⟨tlen, tcp⟩ := tk.len
  simp only [k_66_text_4, wpSs, wpS, wpE, wpEs, wpAnd, wpOr, wpI, wpF, wpT, wpH, Env.at, Env.put, Env.wipe, Env.nox, Slot.nox, wBin, binI, wCmp, cmpI, wBi, isTy, asL, asLT, bindT, bindTs, intsOf, boolsOf, atInt, ixL0, ixL1, ixL2, List.getElem?_cons_zero, List.getElem?_cons_succ, List.nil_append, List.cons_append, List.append_nil, if_true, ite_true, ho]
  refine ⟨(show 3 ≤ SL by decide), w, _, _, rfl, (show 0 < 3 by decide), (show 3 < 100000 by decide), w9, by omega, fun d h10 hd10 w10 f10 => ?_⟩
  obtain ⟨sg, rfl, hsg⟩ : ∃ sg, d = .str sg ∧ (sg = [] ∨ sg = [45]) := by
    have : d = .str [] ∨ d = .str [] ∨ d = .str [45] := by simpa using hd10
    rcases this with rfl | rfl | rfl
    · exact ⟨_, rfl, .inl rfl⟩
    · exact ⟨_, rfl, .inl rfl⟩
    · exact ⟨_, rfl, .inr rfl⟩
  have nW : W ≠ [] := fun z => by rw [z] at lW; simp at lW; omega
  have dWP : digS (W ++ P) = true := by
    unfold digS at *
    rw [List.all_append, dW, dP]; rfl
  have nWP : W ++ P ≠ [] := fun z => nW (List.append_eq_nil_iff.mp z).1
  have sgl : sg.length ≤ 1 := by rcases hsg with rfl | rfl <;> decide
  have ih : intZ (sg ++ W ++ P) = some ((if sg = [] then 1 else -1) * (decN (W ++ P) : Int)) := by
    rw [List.append_assoc]
    rcases hsg with rfl | rfl
    · rw [if_pos rfl, Int.one_mul]
      exact intZ_dig nWP dWP
    · rw [if_neg (by simp), show ∀ x : Int, -1 * x = -x from fun x => by omega]
      exact intZ_neg nWP dWP
  simp only [k_66_text_3, wpSs, wpS, wpE, wpEs, wpAnd, wpOr, wpI, wpF, wpT, wpH, Env.at, Env.put, Env.wipe, Env.nox, Slot.nox, wBin, binI, wCmp, cmpI, wBi, isTy, asL, asLT, bindT, bindTs, intsOf, boolsOf, atInt, ixL0, ixL1, ixL2, List.getElem?_cons_zero, List.getElem?_cons_succ, List.nil_append, List.cons_append, List.append_nil, if_true, ite_true]
  refine ⟨by omega, by rw [List.length_append]; omega, ?_⟩
  rw [ih]
  refine ⟨by rw [List.length_append, List.length_append]; omega, ?_⟩
  simp only [k_66_text_2, wpSs, wpS, wpE, wpEs, wpAnd, wpOr, wpI, wpF, wpT, wpH, Env.at, Env.put, Env.wipe, Env.nox, Slot.nox, wBin, binI, wCmp, cmpI, wBi, isTy, asL, asLT, bindT, bindTs, intsOf, boolsOf, atInt, ixL0, ixL1, ixL2, List.getElem?_cons_zero, List.getElem?_cons_succ, List.nil_append, List.cons_append, List.append_nil, if_true, ite_true]
  have x : TxP sg W P tl kt := ⟨hsg, dW, nW, dP, by omega, tk⟩
  have et : sg ++ W ++ dotP P ++ tl = txt sg W P tl := by unfold txt; simp
  have dl : (dotP P).length ≤ 101 := by
    unfold dotP
    split
    · decide
    · rw [List.length_cons]; omega
  have lt : (txt sg W P tl).length ≤ 300 := by
    rw [← et, List.length_append, List.length_append, List.length_append]; omega
  have ct : CpS (txt sg W P tl) := by
    rw [← et]
    refine CpS.app (CpS.app (CpS.app ?_ (CpS.dig dW)) ?_) tcp
    · rcases hsg with rfl | rfl <;> rfl
    · unfold dotP
      split
      · rfl
      · exact CpS.app (s := [46]) rfl (CpS.dig dP)
  have fin : wpSs Γ k_66_text_1 [.val (.ref w), .val (.int (m : Int)), .val (.int (p : Int)), .val (.str W), .val (.str P), .val (.str tl), .val (.str sg), .val (.int ((if sg = [] then 1 else -1) * (decN (W ++ P) : Int))), .val (.str (sg ++ W ++ dotP P ++ tl))] h10 (PBd Q R) := by
    rw [et]
    simp only [k_66_text_1, wpSs, wpS, wpE, wpEs, wpAnd, wpOr, wpI, wpF, wpT, wpH, Env.at, Env.put, Env.wipe, Env.nox, Slot.nox, wBin, binI, wCmp, cmpI, wBi, isTy, asL, asLT, bindT, bindTs, intsOf, boolsOf, atInt, ixL0, ixL1, ixL2, List.getElem?_cons_zero, List.getElem?_cons_succ, List.nil_append, List.cons_append, List.append_nil, if_true, ite_true, hr]
    refine ⟨str_okT tcp rfl, ?_⟩
    have hi := tk.int
    have done : ∀ v : Int, v = kt → sp_66_reduced [.int ((if sg = [] then 1 else -1) * (decN (W ++ P) : Int)), .int (v - (p : Int))] h10 (fun d h => [D.str (txt sg W P tl), d].length ≤ SL ∧ Q (.tup [.str (txt sg W P tl), d]) h) (fun x h => R x h) := fun v hv => by
      subst hv
      refine ⟨_, _, rfl, fun r hr => ⟨(show 2 ≤ SL by decide), q _ _ _ r h10 (txt_read x) (by rw [lP]; exact hr) lt ct (w10.mono (by omega)) ?_⟩⟩
      exact ((((((((f1.trans f2).trans f3).trans f4).trans f5).trans f6).trans f7).trans f8).trans f9).trans f10
    rw [str_eqbT]
    by_cases c : tl = []
    · rw [decide_eq_true c]
      simp only [Bool.not_true, Bool.false_eq_true, if_false]
      rw [if_neg (by rw [Ne, Classical.not_not]; exact c)] at hi
      rw [hi]
      exact ⟨by decide, done _ rfl⟩
    · rw [decide_eq_false c]
      simp only [Bool.not_false, if_true]
      rw [show (1 : Int) = ((1 : Nat) : Int) from rfl, slP_nat]
      rw [if_pos c] at hi
      have e1 : min 1 tl.length = 1 := by
        have := List.length_pos_iff.mpr c
        omega
      rw [e1]
      refine ⟨by omega, ?_⟩
      rw [hi]
      exact ⟨by rw [List.length_drop]; omega, done _ rfl⟩
  refine ⟨by omega, str_okT (CpS.dig dP) rfl, ?_⟩
  rw [str_eqbT]
  by_cases c : P = []
  · have e : dotP P = [] := by unfold dotP; rw [if_pos c]
    rw [e, List.append_nil] at fin
    rw [decide_eq_true c]
    simp only [Bool.not_true, Bool.false_eq_true, if_false]
    have l0 : (sg ++ W).length ≤ 200 := by rw [List.length_append]; omega
    exact ⟨by show _ + 0 ≤ SL; omega, by omega, fin⟩
  · have e : dotP P = 46 :: P := by unfold dotP; rw [if_neg c]
    rw [e] at fin
    rw [decide_eq_false c]
    simp only [Bool.not_false, if_true]
    have l0 : (sg ++ W).length ≤ 200 := by rw [List.length_append]; omega
    exact ⟨by show 1 + _ ≤ SL; omega, by rw [List.length_cons]; omega, by rw [List.length_append, List.length_cons]; omega, fin⟩
end FF
namespace FF
def k_67_go_1 : Ss := .cons (.ret (.tup (.cons (.ite (.cmp .lt (.var 1) (.int 100)) (.var 3) .non) (.cons (.bin .add (.var 1) (.int 1)) .nil)))) .nil
def k_67_go_2 : Ss := .cons (.set 3 (.ite (.cmp .in_ (.var 0) (.tup (.cons (.str [112, 111, 105, 110, 116]) (.cons (.str [112, 108, 97, 99, 101, 115]) .nil)))) (.str [112, 108, 97, 99, 101, 115]) (.str [119, 104, 111, 108, 101]))) k_67_go_1
def k_67_go_3 : Ss := .cons (.ret (.tup (.cons (.ite (.ands (.cons (.cmp .eq (.var 2) (.str [101])) (.cons (.cmp .in_ (.var 0) (.tup (.cons (.str [119, 104, 111, 108, 101]) (.cons (.str [112, 108, 97, 99, 101, 115]) .nil)))) .nil))) (.str [101]) .non) (.cons (.var 1) .nil)))) .nil
def k_67_go_4 : Ss := .cons (.ite (.cmp .eq (.var 2) (.str [46])) (.cons (.ret (.tup (.cons (.ite (.ands (.cons (.cmp .eq (.var 0) (.str [119, 104, 111, 108, 101])) (.cons (.cmp .lt (.var 1) (.int 100)) .nil))) (.str [112, 111, 105, 110, 116]) .non) (.cons (.var 1) .nil)))) .nil) .nil) k_67_go_3
def k_67_go_5 : Ss := .cons (.ite (.cmp .eq (.var 2) (.str [45])) (.cons (.ret (.tup (.cons (.dgetN [([98, 101, 103, 105, 110], .str [109, 105, 110, 117, 115]), ([101], .str [101, 45])] (.var 0)) (.cons (.var 1) .nil)))) .nil) .nil) k_67_go_4
def k_67_go_6 : Ss := .cons (.ite (.sin (.var 2) (.str [48, 49, 50, 51, 52, 53, 54, 55, 56, 57])) (.cons (.ret (.tup (.cons (.dgetN [([101], .str [111, 110, 101]), ([101, 45], .str [111, 110, 101]), ([111, 110, 101], .str [116, 119, 111]), ([116, 119, 111], .str [116, 104, 114, 101, 101])] (.var 0)) (.cons (.var 1) .nil)))) .nil) .nil) k_67_go_5
def k_67_go_7 : Ss := .cons (.ite (.ands (.cons (.sin (.var 2) (.str [48, 49, 50, 51, 52, 53, 54, 55, 56, 57])) (.cons (.cmp .in_ (.var 0) (.tup (.cons (.str [98, 101, 103, 105, 110]) (.cons (.str [109, 105, 110, 117, 115]) (.cons (.str [119, 104, 111, 108, 101]) (.cons (.str [112, 111, 105, 110, 116]) (.cons (.str [112, 108, 97, 99, 101, 115]) .nil))))))) .nil))) k_67_go_2 .nil) k_67_go_6
def ir_67_go : Fd := ⟨3, 4, k_67_go_7⟩
def k_67_wrong_1 : Ss := .cons (.ite (.cmp .is_ (.var 1) .non) (.cons (.ret (.var 3)) .nil) .nil) .nil
def k_67_wrong_2 : Ss := .cons (.setT (.cons (.name 1) (.cons (.name 2) .nil)) (.call 1013 (.cons (.var 1) (.cons (.var 2) (.cons (.var 4) .nil))) [])) k_67_wrong_1
def k_67_wrong_3 : Ss := .cons (.ret (.ite (.cmp .in_ (.var 1) (.tup (.cons (.str [119, 104, 111, 108, 101]) (.cons (.str [112, 108, 97, 99, 101, 115]) (.cons (.str [111, 110, 101]) (.cons (.str [116, 119, 111]) (.cons (.str [116, 104, 114, 101, 101]) .nil))))))) .non (.bi .len (.cons (.var 0) .nil)))) .nil
def k_67_wrong_4 : Ss := .cons (.for_ (.tup (.cons (.name 3) (.cons (.name 4) .nil))) (.enumS (.var 0)) k_67_wrong_2) k_67_wrong_3
def k_67_wrong_5 : Ss := .cons (.setT (.cons (.name 1) (.cons (.name 2) .nil)) (.tup (.cons (.str [98, 101, 103, 105, 110]) (.cons (.int 0) .nil)))) k_67_wrong_4
def ir_67_wrong : Fd := ⟨1, 5, k_67_wrong_5⟩
def k_67_bent_1 : Ss := .cons (.ret (.call 1902 (.cons (.var 0) (.cons (.bin .add (.var 5) (.lst (.cons (.sslF (.var 1) (.var 2)) (.cons (.bin .add (.var 1) (.var 4)) (.cons (.bin .add (.var 4) (.var 1)) (.cons (.bin .add (.sslT (.var 1) (.var 2)) (.sslT (.var 1) (.var 2))) (.cons (.bin .add (.var 1) (.str [32])) (.cons (.bin .add (.str [32]) (.var 1)) .nil)))))))) .nil)) [])) .nil
def k_67_bent_2 : Ss := .cons (.set 5 (.lst (.cons (.bin .add (.bin .add (.sslT (.var 1) (.var 2)) (.var 4)) (.sslF (.var 1) (.var 2))) (.cons (.bin .add (.sslT (.var 1) (.var 2)) (.sslF (.var 1) (.bin .add (.var 2) (.int 1)))) (.cons (.bin .add (.bin .add (.sslT (.var 1) (.var 2)) (.var 4)) (.sslF (.var 1) (.bin .add (.var 2) (.int 1)))) (.cons (.sslT (.var 1) (.var 2)) .nil)))))) k_67_bent_1
def k_67_bent_3 : Ss := .cons (.set 4 (.call 1902 (.cons (.var 0) (.cons (.bin .add (.listS (.str [48, 49, 57, 53, 45, 46, 101, 69, 43, 32, 120, 95, 44])) (.lst (.cons (.str [10]) (.cons (.str [9]) (.cons (.str [101, 45]) (.cons (.str [48, 48]) .nil)))))) .nil)) [])) k_67_bent_2
def k_67_bent_4 : Ss := .cons (.setP 2 3 (.call 1900 (.cons (.var 0) (.cons (.bin .add (.bi .len (.cons (.var 1) .nil)) (.int 1)) .nil)) []) (.bi .len (.cons (.var 1) .nil))) k_67_bent_3
def ir_67_bent : Fd := ⟨2, 6, k_67_bent_4⟩
def k_67_known_right_1 : Ss := .cons (.ite (.ors (.cons (.ands (.cons (.cmp .isn (.var 3) .non) (.cons (.cmp .ne (.var 4) (.tup (.cons (.str [116, 101, 120, 116]) (.cons (.var 3) .nil)))) .nil))) (.cons (.ands (.cons (.cmp .is_ (.var 3) .non) (.cons (.cmp .eq (.idx (.var 4) (.int 0)) (.str [116, 101, 120, 116])) .nil))) .nil))) (.cons (.ret (.bl false)) .nil) .nil) .nil
def k_67_known_right_2 : Ss := .cons (.set 4 (.lamc 1014 (.call 131 (.cons (.var 2) .nil) []))) k_67_known_right_1
def k_67_known_right_3 : Ss := .cons (.set 5 (.lst (.cons (.var 5) .nil))) .nil
def k_67_known_right_4 : Ss := .cons (.ite (.cmp .ne (.lamc 1014 (.call 131 (.cons (.var 7) .nil) [])) (.tup (.cons (.str [116, 101, 120, 116]) (.cons (.neg (.int 1)) .nil)))) (.cons (.ret (.bl false)) .nil) .nil) .nil
def k_67_known_right_5 : Ss := .cons (.ret (.bl true)) .nil
def k_67_known_right_6 : Ss := .cons (.for_ (.name 7) (.seq (.lst (.cons .non (.cons (.int 5) (.cons (.bl true) (.cons (.lst (.cons (.str [49]) .nil)) (.cons (.tup (.cons (.str [49]) .nil)) (.cons .dct (.cons (.var 5) .nil))))))))) k_67_known_right_4) k_67_known_right_5
def k_67_known_right_7 : Ss := .cons (.for_ (.name 6) (.rng1 (.int 1980)) k_67_known_right_3) k_67_known_right_6
def k_67_known_right_8 : Ss := .cons (.set 5 (.lst .nil)) k_67_known_right_7
def k_67_known_right_9 : Ss := .cons (.for_ (.tup (.cons (.name 2) (.cons (.name 3) .nil))) (.seq (.var 0)) k_67_known_right_2) k_67_known_right_8
def k_67_known_right_10 : Ss := .cons (.set 0 (.bin .add (.var 0) (.lst (.cons (.tup (.cons (.bin .add (.bin .add (.str [45]) (.var 1)) (.str [101, 57, 57, 57])) (.cons .non .nil))) (.cons (.tup (.cons (.bin .add (.bin .add (.str [45]) (.var 1)) (.str [56])) (.cons (.int 101) .nil))) (.cons (.tup (.cons (.bin .add (.str [48, 46]) (.sslF (.var 1) (.int 1))) (.cons .non .nil))) (.cons (.tup (.cons (.bin .add (.str [48, 46]) (.var 1)) (.cons (.int 101) .nil))) .nil))))))) k_67_known_right_9
def k_67_known_right_11 : Ss := .cons (.set 0 (.bin .add (.var 0) (.lst (.cons (.tup (.cons (.bin .add (.var 1) (.str [55])) (.cons (.int 100) .nil))) (.cons (.tup (.cons (.bin .add (.var 1) (.str [46])) (.cons (.int 100) .nil))) (.cons (.tup (.cons (.bin .add (.sslF (.var 1) (.int 1)) (.str [46, 53])) (.cons .non .nil))) (.cons (.tup (.cons (.bin .add (.sslF (.var 1) (.int 1)) (.str [46, 53, 53])) (.cons (.int 101) .nil))) .nil))))))) k_67_known_right_10
def k_67_known_right_12 : Ss := .cons (.set 1 (.bin .mul (.str [55]) (.int 100))) k_67_known_right_11
def k_67_known_right_13 : Ss := .cons (.set 0 (.bin .add (.var 0) (.lst (.cons (.tup (.cons (.str [105, 110, 102]) (.cons (.int 0) .nil))) (.cons (.tup (.cons (.str [110, 97, 110]) (.cons (.int 0) .nil))) (.cons (.tup (.cons (.str [49, 69, 53]) (.cons (.int 1) .nil))) (.cons (.tup (.cons (.str [49, 10]) (.cons (.int 1) .nil))) (.cons (.tup (.cons (.str [49, 45]) (.cons (.int 1) .nil))) (.cons (.tup (.cons (.str [49, 101, 45, 45, 49]) (.cons (.int 3) .nil))) .nil))))))))) k_67_known_right_12
def k_67_known_right_14 : Ss := .cons (.set 0 (.bin .add (.var 0) (.lst (.cons (.tup (.cons (.str [43, 49]) (.cons (.int 0) .nil))) (.cons (.tup (.cons (.str [49, 32]) (.cons (.int 1) .nil))) (.cons (.tup (.cons (.str [32, 49]) (.cons (.int 0) .nil))) (.cons (.tup (.cons (.str [49, 101, 43, 53]) (.cons (.int 2) .nil))) (.cons (.tup (.cons (.str [49, 95, 48]) (.cons (.int 1) .nil))) (.cons (.tup (.cons (.str [49, 46, 50, 46, 51]) (.cons (.int 3) .nil))) (.cons (.tup (.cons (.str [49, 101, 53, 46, 48]) (.cons (.int 3) .nil))) (.cons (.tup (.cons (.str [48, 120, 49]) (.cons (.int 1) .nil))) .nil))))))))))) k_67_known_right_13
def k_67_known_right_15 : Ss := .cons (.set 0 (.lst (.cons (.tup (.cons (.str []) (.cons (.int 0) .nil))) (.cons (.tup (.cons (.str [45]) (.cons (.int 1) .nil))) (.cons (.tup (.cons (.str [46, 53]) (.cons (.int 0) .nil))) (.cons (.tup (.cons (.str [53, 46]) (.cons (.int 2) .nil))) (.cons (.tup (.cons (.str [49, 46, 101, 53]) (.cons (.int 2) .nil))) (.cons (.tup (.cons (.str [49, 101]) (.cons (.int 2) .nil))) (.cons (.tup (.cons (.str [49, 101, 45]) (.cons (.int 3) .nil))) (.cons (.tup (.cons (.str [49, 101, 49, 50, 51, 52]) (.cons (.int 5) .nil))) (.cons (.tup (.cons (.str [45, 45, 49]) (.cons (.int 1) .nil))) .nil))))))))))) k_67_known_right_14
def ir_67_known_right : Fd := ⟨0, 8, k_67_known_right_15⟩
def k_67law_1 : Ss := .cons (.set 4 (.call 1016 (.cons (.var 2) (.cons (.var 4) .nil)) [])) .nil
def k_67law_2 : Ss := .cons (.ite (.ors (.cons (.ands (.cons (.cmp .isn (.var 6) .non) (.cons (.cmp .ne (.var 7) (.tup (.cons (.str [116, 101, 120, 116]) (.cons (.var 6) .nil)))) .nil))) (.cons (.ands (.cons (.cmp .is_ (.var 6) .non) (.cons (.cmp .eq (.idx (.var 7) (.int 0)) (.str [116, 101, 120, 116])) .nil))) .nil))) (.cons (.ret (.bl false)) .nil) .nil) .nil
def k_67law_3 : Ss := .cons (.setP 6 7 (.call 1017 (.cons (.var 4) .nil) []) (.lamc 1014 (.call 131 (.cons (.var 4) .nil) []))) k_67law_2
def k_67law_4 : Ss := .cons (.for_ (.name 5) (.rng1 (.bin .add (.int 1) (.call 1900 (.cons (.var 2) (.cons (.int 3) .nil)) []))) k_67law_1) k_67law_3
def k_67law_5 : Ss := .cons (.set 4 (.idx (.call 1015 (.cons (.var 2) .nil) []) (.int 0))) k_67law_4
def k_67law_6 : Ss := .cons (.for_ (.name 3) (.rng1 (.int 12)) k_67law_5) .nil
def k_67law_7 : Ss := .cons (.set 2 (.call 1901 (.cons (.var 1) .nil) [])) k_67law_6
def k_67law_8 : Ss := .cons (.ret (.call 1018 .nil [])) .nil
def k_67law_9 : Ss := .cons (.for_ (.name 1) (.seq (.bin .add (.lst (.cons (.call 1903 (.cons (.var 0) (.cons (.int 0) .nil)) []) .nil)) (.slOf (.var 0) (.int 1) (.int 5)))) k_67law_7) k_67law_8
def ir_67law : Fd := ⟨1, 8, k_67law_9⟩
end FF
namespace FF
/-! ### k67: the law's own way, bent texts -/
def qD (q : Option QS) : D := match q with
  | some q => .str q.nm
  | none => .non
theorem in_cnt {q : QS} : (([.str [98, 101, 103, 105, 110], .str [109, 105, 110, 117, 115], .str [119, 104, 111, 108, 101], .str [112, 111, 105, 110, 116], .str [112, 108, 97, 99, 101, 115]] : List D).any (D.eqb (.str q.nm))) = cntB q := by cases q <;> rfl
def ptB (q : QS) : Bool := match q with
  | .pt => true
  | .pl => true
  | _ => false
def wpB (q : QS) : Bool := match q with
  | .wh => true
  | .pl => true
  | _ => false
theorem in_pt {q : QS} : (([.str [112, 111, 105, 110, 116], .str [112, 108, 97, 99, 101, 115]] : List D).any (D.eqb (.str q.nm))) = ptB q := by cases q <;> rfl
theorem in_wp {q : QS} : (([.str [119, 104, 111, 108, 101], .str [112, 108, 97, 99, 101, 115]] : List D).any (D.eqb (.str q.nm))) = wpB q := by cases q <;> rfl
theorem in_acc {q : QS} : (([.str [119, 104, 111, 108, 101], .str [112, 108, 97, 99, 101, 115], .str [111, 110, 101], .str [116, 119, 111], .str [116, 104, 114, 101, 101]] : List D).any (D.eqb (.str q.nm))) = acc67 q := by cases q <;> rfl
theorem nm_cp {q : QS} : CpS q.nm := by cases q <;> rfl
def sp_67_go : Spec := fun ds h Q _ => ∃ (q : QS) (m c : Nat), ds = [.str q.nm, .int m, .str [c]] ∧ c < 1114112 ∧ Q (.tup [qD (go67 q m c), .int (gom q m c : Nat)]) h
theorem b_67_go {Γ : Gam} : BodyOk Γ ir_67_go sp_67_go := by
  rintro ds h Q R ⟨q, m, c, rfl, cl, k⟩
  refine ⟨rfl, ?_⟩
  show wpSs Γ ir_67_go.body [.val (.str q.nm), .val (.int m), .val (.str [c]), .un] h (PBd Q R)
  have l2 : 2 ≤ SL := by decide
  have l5 : 5 ≤ SL := by decide
  have ccp : CpS [c] := by unfold CpS; rw [List.all_cons, decide_eq_true cl]; rfl
  simp only [ir_67_go, k_67_go_7, wpSs, wpS, wpE, wpEs, wpAnd, wpOr, wpI, wpF, wpT, wpH, Env.at, Env.put, Env.wipe, Env.nox, Slot.nox, wBin, binI, wCmp, cmpI, wBi, isTy, asL, asLT, bindT, bindTs, intsOf, boolsOf, atInt, ixL0, ixL1, ixL2, List.getElem?_cons_zero, List.getElem?_cons_succ, List.nil_append, List.cons_append, List.append_nil, if_true, ite_true, fig_mem]
  by_cases hd : dgB c = true
  · rw [if_pos hd]
    refine ⟨l5, ⟨rfl, rfl⟩, ?_⟩
    rw [in_cnt]
    by_cases hc : cntB q = true
    · rw [if_pos hc]
      simp only [k_67_go_2, wpSs, wpS, wpE, wpEs, wpAnd, wpOr, wpI, wpF, wpT, wpH, Env.at, Env.put, Env.wipe, Env.nox, Slot.nox, wBin, binI, wCmp, cmpI, wBi, isTy, asL, asLT, bindT, bindTs, intsOf, boolsOf, atInt, ixL0, ixL1, ixL2, List.getElem?_cons_zero, List.getElem?_cons_succ, List.nil_append, List.cons_append, List.append_nil, if_true, ite_true]
      refine ⟨l2, ⟨rfl, rfl⟩, ?_⟩
      rw [in_pt]
      have eg : gom q m c = m + 1 := by unfold gom; rw [if_pos ⟨hd, hc⟩]
      have e2 : go67 q m c = if m < 100 then some (if ptB q = true then .pl else .wh) else none := by
        unfold go67
        rw [if_pos hd]
        cases q <;> first | rfl | cases hc
      rw [eg, e2] at k
      have fin : ∀ s : QS, Q (.tup [qD (if m < 100 then some s else none), .int ((m + 1 : Nat) : Int)]) h → wpSs Γ k_67_go_1 [.val (.str q.nm), .val (.int m), .val (.str [c]), .val (.str s.nm)] h (PBd Q R) := fun s k => by
        simp only [k_67_go_1, wpSs, wpS, wpE, wpEs, wpAnd, wpOr, wpI, wpF, wpT, wpH, Env.at, Env.put, Env.wipe, Env.nox, Slot.nox, wBin, binI, wCmp, cmpI, wBi, isTy, asL, asLT, bindT, bindTs, intsOf, boolsOf, atInt, ixL0, ixL1, ixL2, List.getElem?_cons_zero, List.getElem?_cons_succ, List.nil_append, List.cons_append, List.append_nil, if_true, ite_true]
        by_cases hm : m < 100
        · rw [if_pos (decide_eq_true (show (m : Int) < 100 by omega))]
          rw [if_pos hm] at k
          exact ⟨l2, k⟩
        · rw [if_neg (by rw [decide_eq_true_iff]; omega)]
          rw [if_neg hm] at k
          exact ⟨l2, k⟩
      by_cases hp : ptB q = true
      · rw [if_pos hp]
        rw [if_pos hp] at k
        exact fin .pl k
      · rw [if_neg hp]
        rw [if_neg hp] at k
        exact fin .wh k
    · rw [if_neg hc]
      simp only [k_67_go_6, wpSs, wpS, wpE, wpEs, wpAnd, wpOr, wpI, wpF, wpT, wpH, Env.at, Env.put, Env.wipe, Env.nox, Slot.nox, wBin, binI, wCmp, cmpI, wBi, isTy, asL, asLT, bindT, bindTs, intsOf, boolsOf, atInt, ixL0, ixL1, ixL2, List.getElem?_cons_zero, List.getElem?_cons_succ, List.nil_append, List.cons_append, List.append_nil, if_true, ite_true, fig_mem]
      rw [if_pos hd]
      have eg : gom q m c = m := by unfold gom; rw [if_neg (fun z => hc z.2)]
      have e2 : qD (go67 q m c) = (([([101], D.str [111, 110, 101]), ([101, 45], .str [111, 110, 101]), ([111, 110, 101], .str [116, 119, 111]), ([116, 119, 111], .str [116, 104, 114, 101, 101])] : List (List Nat × D)).lookup q.nm).getD .non := by
        unfold go67
        rw [if_pos hd]
        cases q <;> first | rfl | exact absurd rfl hc
      rw [eg, e2] at k
      exact ⟨l2, k⟩
  · rw [if_neg hd]
    simp only [Bool.false_eq_true, if_false, k_67_go_6, wpSs, wpS, wpE, wpEs, wpAnd, wpOr, wpI, wpF, wpT, wpH, Env.at, Env.put, Env.wipe, Env.nox, Slot.nox, wBin, binI, wCmp, cmpI, wBi, isTy, asL, asLT, bindT, bindTs, intsOf, boolsOf, atInt, ixL0, ixL1, ixL2, List.getElem?_cons_zero, List.getElem?_cons_succ, List.nil_append, List.cons_append, List.append_nil, if_true, ite_true, fig_mem]
    rw [if_neg hd]
    have eg : gom q m c = m := by unfold gom; rw [if_neg (fun z => hd z.1)]
    rw [eg] at k
    simp only [k_67_go_5, wpSs, wpS, wpE, wpEs, wpAnd, wpOr, wpI, wpF, wpT, wpH, Env.at, Env.put, Env.wipe, Env.nox, Slot.nox, wBin, binI, wCmp, cmpI, wBi, isTy, asL, asLT, bindT, bindTs, intsOf, boolsOf, atInt, ixL0, ixL1, ixL2, List.getElem?_cons_zero, List.getElem?_cons_succ, List.nil_append, List.cons_append, List.append_nil, if_true, ite_true]
    refine ⟨str_okT ccp rfl, ?_⟩
    rw [str_eqbT]
    by_cases c1 : c = 45
    · subst c1
      rw [if_pos (by rfl)]
      have e2 : qD (go67 q m 45) = (([([98, 101, 103, 105, 110], D.str [109, 105, 110, 117, 115]), ([101], .str [101, 45])] : List (List Nat × D)).lookup q.nm).getD .non := by
        cases q <;> rfl
      rw [e2] at k
      exact ⟨l2, k⟩
    · rw [if_neg (by rw [decide_eq_true_iff]; simpa using c1)]
      simp only [k_67_go_4, wpSs, wpS, wpE, wpEs, wpAnd, wpOr, wpI, wpF, wpT, wpH, Env.at, Env.put, Env.wipe, Env.nox, Slot.nox, wBin, binI, wCmp, cmpI, wBi, isTy, asL, asLT, bindT, bindTs, intsOf, boolsOf, atInt, ixL0, ixL1, ixL2, List.getElem?_cons_zero, List.getElem?_cons_succ, List.nil_append, List.cons_append, List.append_nil, if_true, ite_true]
      refine ⟨str_okT ccp rfl, ?_⟩
      rw [str_eqbT]
      by_cases c2 : c = 46
      · subst c2
        rw [if_pos (by rfl)]
        refine ⟨str_okT nm_cp rfl, ?_⟩
        rw [str_eqbT]
        have e2 : go67 q m 46 = if decide (q.nm = [119, 104, 111, 108, 101]) = true then (if m < 100 then some .pt else none) else none := by
          cases q <;> rfl
        rw [e2] at k
        by_cases c3 : decide (q.nm = [119, 104, 111, 108, 101]) = true
        · rw [if_pos c3] at k ⊢
          by_cases hm : m < 100
          · rw [if_pos (decide_eq_true (show (m : Int) < 100 by omega))]
            rw [if_pos hm] at k
            exact ⟨l2, k⟩
          · rw [if_neg (by rw [decide_eq_true_iff]; omega)]
            rw [if_neg hm] at k
            exact ⟨l2, k⟩
        · rw [if_neg c3] at k ⊢
          rw [if_neg (by simp)]
          exact ⟨l2, k⟩
      · rw [if_neg (by rw [decide_eq_true_iff]; simpa using c2)]
        simp only [k_67_go_3, wpSs, wpS, wpE, wpEs, wpAnd, wpOr, wpI, wpF, wpT, wpH, Env.at, Env.put, Env.wipe, Env.nox, Slot.nox, wBin, binI, wCmp, cmpI, wBi, isTy, asL, asLT, bindT, bindTs, intsOf, boolsOf, atInt, ixL0, ixL1, ixL2, List.getElem?_cons_zero, List.getElem?_cons_succ, List.nil_append, List.cons_append, List.append_nil, if_true, ite_true]
        refine ⟨str_okT ccp rfl, ?_⟩
        rw [str_eqbT]
        by_cases c3 : c = 101
        · subst c3
          rw [if_pos (by rfl)]
          refine ⟨l2, ⟨rfl, rfl⟩, ?_⟩
          rw [in_wp]
          have e2 : go67 q m 101 = if wpB q = true then some .ex else none := by cases q <;> rfl
          rw [e2] at k
          by_cases c4 : wpB q = true
          · rw [if_pos c4] at k ⊢
            exact ⟨l2, k⟩
          · rw [if_neg c4] at k ⊢
            exact ⟨l2, k⟩
        · rw [if_neg (by rw [decide_eq_true_iff]; simpa using c3), if_neg (by simp)]
          have e2 : go67 q m c = none := go_no hd (fun z => absurd z c1) (fun z => absurd z c2) (fun z => absurd z c3)
          rw [e2] at k
          exact ⟨l2, k⟩
def oD (o : Option Nat) : D := match o with
  | some e => .int (e : Nat)
  | none => .non
def sp_67_wrong : Spec := fun ds h Q _ => ∃ s : List Nat, ds = [.str s] ∧ s.length ≤ 9000 ∧ CpS s ∧ Q (oD (errT (rdT s))) h
theorem aut_step {s : List Nat} {q : QS} {m i c : Nat} (hc : s[i]? = some c) : aut (s.drop i) q m i = match go67 q m c with
    | some q' => aut (s.drop (i + 1)) q' (gom q m c) (i + 1)
    | none => some i := by
  obtain ⟨lt, e⟩ := List.getElem?_eq_some_iff.mp hc
  rw [List.drop_eq_getElem_cons lt, e]
  rfl
theorem enumS_get {s : List Nat} {i : Nat} {d : D} (h : (enumD (sgnD s))[i]? = some d) : ∃ c, s[i]? = some c ∧ d = .tup [.int (i : Nat), .str [c]] := by
  unfold enumD at h
  rw [List.getElem?_zipWith] at h
  by_cases lt : i < s.length
  · have l' : i < (sgnD s).length := by unfold sgnD; rw [List.length_map]; exact lt
    have e1 : (List.range (sgnD s).length)[i]? = some i := by rw [List.getElem?_range l']
    have e2 : (sgnD s)[i]? = some (.str [s[i]]) := by unfold sgnD; rw [List.getElem?_map, List.getElem?_eq_getElem lt]; rfl
    rw [e1, e2] at h
    cases h
    exact ⟨_, List.getElem?_eq_getElem lt, rfl⟩
  · have e2 : (sgnD s)[i]? = none := List.getElem?_eq_none (by unfold sgnD; rw [List.length_map]; omega)
    rw [e2] at h
    split at h
    · rename_i z
      cases z
    · cases h
theorem b_67_wrong {Γ : Gam} (hg : Γ.fn 1013 = sp_67_go) : BodyOk Γ ir_67_wrong sp_67_wrong := by
  rintro ds h Q R ⟨s, rfl, sl, sc, k⟩
  rw [rdT_err] at k
  refine ⟨rfl, ?_⟩
  show wpSs Γ ir_67_wrong.body [.val (.str s), .un, .un, .un, .un] h (PBd Q R)
  simp only [ir_67_wrong, k_67_wrong_5, wpSs, wpS, wpE, wpEs, wpAnd, wpOr, wpI, wpF, wpT, wpH, Env.at, Env.put, Env.wipe, Env.nox, Slot.nox, wBin, binI, wCmp, cmpI, wBi, isTy, asL, asLT, bindT, bindTs, intsOf, boolsOf, atInt, ixL0, ixL1, ixL2, List.getElem?_cons_zero, List.getElem?_cons_succ, List.nil_append, List.cons_append, List.append_nil, if_true, ite_true]
  refine ⟨(show 2 ≤ SL by decide), ?_⟩
  simp only [k_67_wrong_4, wpSs, wpS, wpE, wpEs, wpAnd, wpOr, wpI, wpF, wpT, wpH, Env.at, Env.put, Env.wipe, Env.nox, Slot.nox, wBin, binI, wCmp, cmpI, wBi, isTy, asL, asLT, bindT, bindTs, intsOf, boolsOf, atInt, ixL0, ixL1, ixL2, List.getElem?_cons_zero, List.getElem?_cons_succ, List.nil_append, List.cons_append, List.append_nil, if_true, ite_true]
  refine forL_ix (I := fun i σ h' => h' = h ∧ ∃ (q : QS) (m : Nat) (s3 s4 : Slot), σ = [.val (.str s), .val (.str q.nm), .val (.int m), s3, s4] ∧ aut (s.drop i) q m i = aut s .bg 0 0) (j := 0) _ (fun i d hdd σ h' hI P'' hn'' _ hrt'' hR'' => ?_) ⟨rfl, .bg, 0, _, _, rfl, rfl⟩ ?_
  · obtain ⟨rfl, q, m, s3, s4, rfl, ea⟩ := hI
    obtain ⟨c, hc, rfl⟩ := enumS_get hdd
    rw [Nat.zero_add] at ea
    have cl : c < 1114112 := of_decide_eq_true (List.all_eq_true.mp sc c (List.mem_of_getElem? hc))
    simp only [k_67_wrong_2, wpSs, wpS, wpE, wpEs, wpAnd, wpOr, wpI, wpF, wpT, wpH, Env.at, Env.put, Env.wipe, Env.nox, Slot.nox, wBin, binI, wCmp, cmpI, wBi, isTy, asL, asLT, bindT, bindTs, intsOf, boolsOf, atInt, ixL0, ixL1, ixL2, List.getElem?_cons_zero, List.getElem?_cons_succ, List.nil_append, List.cons_append, List.append_nil, if_true, ite_true, hg]
    refine ⟨q, m, c, rfl, cl, ?_⟩
    rw [aut_step hc] at ea
    cases e : go67 q m c with
    | none =>
      rw [e] at ea
      simp only [qD, k_67_wrong_1, wpSs, wpS, wpE, wpEs, wpAnd, wpOr, wpI, wpF, wpT, wpH, Env.at, Env.put, Env.wipe, Env.nox, Slot.nox, wBin, binI, wCmp, cmpI, wBi, isTy, asL, asLT, bindT, bindTs, intsOf, boolsOf, atInt, ixL0, ixL1, ixL2, List.getElem?_cons_zero, List.getElem?_cons_succ, List.nil_append, List.cons_append, List.append_nil, if_true, ite_true, D.isNon]
      rw [hrt'']
      rw [← ea] at k
      exact k
    | some q' =>
      rw [e] at ea
      simp only [qD, k_67_wrong_1, wpSs, wpS, wpE, wpEs, wpAnd, wpOr, wpI, wpF, wpT, wpH, Env.at, Env.put, Env.wipe, Env.nox, Slot.nox, wBin, binI, wCmp, cmpI, wBi, isTy, asL, asLT, bindT, bindTs, intsOf, boolsOf, atInt, ixL0, ixL1, ixL2, List.getElem?_cons_zero, List.getElem?_cons_succ, List.nil_append, List.cons_append, List.append_nil, if_true, ite_true, D.isNon, Bool.false_eq_true, if_false]
      refine hn'' _ _ ⟨rfl, q', _, _, _, rfl, ?_⟩
      rw [Nat.zero_add]
      exact ea
  · rintro σ h' ⟨rfl, q, m, s3, s4, rfl, ea⟩
    have el : (enumD (sgnD s)).length = s.length := by simp [enumD, List.length_zipWith, sgnD]
    rw [el, Nat.zero_add, List.drop_length] at ea
    simp only [k_67_wrong_3, wpSs, wpS, wpE, wpEs, wpAnd, wpOr, wpI, wpF, wpT, wpH, Env.at, Env.put, Env.wipe, Env.nox, Slot.nox, wBin, binI, wCmp, cmpI, wBi, isTy, asL, asLT, bindT, bindTs, intsOf, boolsOf, atInt, ixL0, ixL1, ixL2, List.getElem?_cons_zero, List.getElem?_cons_succ, List.nil_append, List.cons_append, List.append_nil, if_true, ite_true]
    refine ⟨(show 5 ≤ SL by decide), ⟨rfl, rfl⟩, ?_⟩
    rw [in_acc]
    rw [← ea] at k
    unfold aut at k
    by_cases c : acc67 q = true
    · rw [if_pos c] at k ⊢
      exact k
    · rw [if_neg c] at k ⊢
      exact ⟨Nat.le_trans sl (by decide), k⟩
def sp_67_bent : Spec := fun ds h Q _ => ∃ (w k : Nat) (s : List Nat), ds = [.ref w, .str s] ∧ s.length ≤ 4000 ∧ CpS s ∧ Wel k h w ∧ k + 10 < 1073741824 ∧ ∀ t h', t.length ≤ 2 * s.length + 2 → CpS t → Wel (k + 3) h' w → Fr w h h' → Q (.str t) h'
theorem CpS.from {s : List Nat} (h : CpS s) (b : Nat) : CpS (s.drop b) := List.all_eq_true.mpr fun c m => List.all_eq_true.mp h c (List.mem_of_mem_drop m)
theorem b_67_bent {Γ : Gam} (hd : Γ.fn 1900 = sp_draw) (ho : Γ.fn 1902 = sp_one) : BodyOk Γ ir_67_bent sp_67_bent := by
  rintro ds h Q R ⟨w, k, s, rfl, sl, sc, wk, hk, q⟩
  refine ⟨rfl, ?_⟩
  show wpSs Γ ir_67_bent.body [.val (.ref w), .val (.str s), .un, .un, .un, .un] h (PBd Q R)
  have SLe : SL = 16777216 := rfl
  simp only [ir_67_bent, k_67_bent_4, wpSs, wpS, wpE, wpEs, wpAnd, wpOr, wpI, wpF, wpT, wpH, Env.at, Env.put, Env.wipe, Env.nox, Slot.nox, wBin, binI, wCmp, cmpI, wBi, isTy, asL, asLT, bindT, bindTs, intsOf, boolsOf, atInt, ixL0, ixL1, ixL2, List.getElem?_cons_zero, List.getElem?_cons_succ, List.nil_append, List.cons_append, List.append_nil, if_true, ite_true, hd, ho]
  refine ⟨by omega, w, _, k, rfl, by omega, Nat.le_trans (bitsI_le (p := 20) (by unfold Sz; omega)) (by decide), wk, by omega, fun x h1 a1 b1 w1 f1 => ⟨by omega, ?_⟩⟩
  obtain ⟨a, rfl⟩ : ∃ a : Nat, x = a := ⟨x.toNat, by omega⟩
  simp only [k_67_bent_3, wpSs, wpS, wpE, wpEs, wpAnd, wpOr, wpI, wpF, wpT, wpH, Env.at, Env.put, Env.wipe, Env.nox, Slot.nox, wBin, binI, wCmp, cmpI, wBi, isTy, asL, asLT, bindT, bindTs, intsOf, boolsOf, atInt, ixL0, ixL1, ixL2, List.getElem?_cons_zero, List.getElem?_cons_succ, List.nil_append, List.cons_append, List.append_nil, if_true, ite_true, ho]
  refine ⟨(show 13 ≤ SL by decide), (show 4 ≤ SL by decide), (show 13 + 4 ≤ SL by decide), ?_⟩
  refine ⟨w, _, _, rfl, by simp [sgnD], by simp [sgnD], w1, by omega, fun d h2 hd2 w2 f2 => ?_⟩
  obtain ⟨g, rfl, gl, gc⟩ : ∃ g : List Nat, d = .str g ∧ g.length ≤ 2 ∧ CpS g := by
    have : d = .str [48] ∨ d = .str [49] ∨ d = .str [57] ∨ d = .str [53] ∨ d = .str [45] ∨ d = .str [46] ∨ d = .str [101] ∨ d = .str [69] ∨ d = .str [43] ∨ d = .str [32] ∨ d = .str [120] ∨ d = .str [95] ∨ d = .str [44] ∨ d = .str [10] ∨ d = .str [9] ∨ d = .str [101, 45] ∨ d = .str [48, 48] := by simpa [sgnD, or_assoc] using hd2
    rcases this with rfl | rfl | rfl | rfl | rfl | rfl | rfl | rfl | rfl | rfl | rfl | rfl | rfl | rfl | rfl | rfl | rfl <;> exact ⟨_, rfl, by decide, rfl⟩
  have e1 : slP s.length (a : Int) = min a s.length := slP_nat
  have e2 : slP s.length ((a : Int) + 1) = min (a + 1) s.length := by rw [show (a : Int) + 1 = ((a + 1 : Nat) : Int) by omega]; exact slP_nat
  have lt : (s.take (min a s.length)).length ≤ s.length := by rw [List.length_take]; omega
  have ld : (s.drop (min a s.length)).length ≤ s.length := by rw [List.length_drop]; omega
  have ldd : (s.take (min a s.length)).length + (s.drop (min a s.length)).length ≤ s.length := by rw [List.length_take, List.length_drop]; omega
  have ld2 : (s.drop (min (a + 1) s.length)).length ≤ s.length := by rw [List.length_drop]; omega
  have lde : (s.take (min a s.length)).length + (s.drop (min (a + 1) s.length)).length ≤ s.length := by rw [List.length_take, List.length_drop]; omega
  have ct := sc.to (min a s.length)
  have cd := CpS.from sc (min a s.length)
  have cd2 := CpS.from sc (min (a + 1) s.length)
  simp only [k_67_bent_2, wpSs, wpS, wpE, wpEs, wpAnd, wpOr, wpI, wpF, wpT, wpH, Env.at, Env.put, Env.wipe, Env.nox, Slot.nox, wBin, binI, wCmp, cmpI, wBi, isTy, asL, asLT, bindT, bindTs, intsOf, boolsOf, atInt, ixL0, ixL1, ixL2, List.getElem?_cons_zero, List.getElem?_cons_succ, List.nil_append, List.cons_append, List.append_nil, if_true, ite_true]
  rw [e1, e2]
  generalize et1 : s.take (min a s.length) = t1 at *
  generalize et2 : s.drop (min a s.length) = t2 at *
  generalize et3 : s.drop (min (a + 1) s.length) = t3 at *
  simp only [List.length_append]
  refine ⟨by omega, by omega, by omega, by omega, by omega, by omega, by omega, by omega, by omega, by omega, by omega, by omega, (show 4 ≤ SL by decide), ?_⟩
  simp only [k_67_bent_1, wpSs, wpS, wpE, wpEs, wpAnd, wpOr, wpI, wpF, wpT, wpH, Env.at, Env.put, Env.wipe, Env.nox, Slot.nox, wBin, binI, wCmp, cmpI, wBi, isTy, asL, asLT, bindT, bindTs, intsOf, boolsOf, atInt, ixL0, ixL1, ixL2, List.getElem?_cons_zero, List.getElem?_cons_succ, List.nil_append, List.cons_append, List.append_nil, if_true, ite_true, ho]
  rw [e1, et1, et2]
  refine ⟨by omega, by omega, by omega, by omega, by omega, by omega, by show s.length + 1 ≤ SL; omega, by show 1 + s.length ≤ SL; omega, (show 6 ≤ SL by decide), (show 4 + 6 ≤ SL by decide), ?_⟩
  refine ⟨w, _, _, rfl, (show 0 < 10 by decide), (show 10 < 100000 by decide), w2, by omega, fun d h3 hd3 w3 f3 => ?_⟩
  obtain ⟨z, rfl, zl, zc⟩ : ∃ z : List Nat, d = .str z ∧ z.length ≤ 2 * s.length + 2 ∧ CpS z := by
    have : d = .str (t1 ++ g ++ t2) ∨ d = .str (t1 ++ t3) ∨ d = .str (t1 ++ g ++ t3) ∨ d = .str t1 ∨ d = .str t2 ∨ d = .str (s ++ g) ∨ d = .str (g ++ s) ∨ d = .str (t1 ++ t1) ∨ d = .str (s ++ [32]) ∨ d = .str ([32] ++ s) := by simpa [or_assoc] using hd3
    have c32 : CpS [32] := rfl
    rcases this with rfl | rfl | rfl | rfl | rfl | rfl | rfl | rfl | rfl | rfl
    · exact ⟨_, rfl, by simp only [List.length_append]; omega, (ct.app gc).app cd⟩
    · exact ⟨_, rfl, by simp only [List.length_append]; omega, ct.app cd2⟩
    · exact ⟨_, rfl, by simp only [List.length_append]; omega, (ct.app gc).app cd2⟩
    · exact ⟨_, rfl, by omega, ct⟩
    · exact ⟨_, rfl, by omega, cd⟩
    · exact ⟨_, rfl, by simp only [List.length_append]; omega, sc.app gc⟩
    · exact ⟨_, rfl, by simp only [List.length_append]; omega, gc.app sc⟩
    · exact ⟨_, rfl, by simp only [List.length_append]; omega, ct.app ct⟩
    · exact ⟨_, rfl, by simp only [List.length_append, List.length_cons, List.length_nil]; omega, sc.app c32⟩
    · exact ⟨_, rfl, by simp only [List.length_append, List.length_cons, List.length_nil]; omega, c32.app sc⟩
  exact q z h3 zl zc (w3.mono (by omega)) ((f1.trans f2).trans f3)
end FF
namespace FF
/-! ### k67: what is said, known texts, and the law -/
def text67 (v : D) : D := .tup [.str [116, 101, 120, 116], v]
def hsp_67_said : (AH → QE → RE → Prop) → AH → QE → RE → Prop := fun act h Q R => ∀ (Q' : QE) (R' : RE), (∀ d h, Q d h → Q' d h) → (∀ v h, Q (text67 v) h → R' ⟨8, v⟩ h) → act h Q' R'
theorem bh_67_said {Γ : Gam} (b5 : Γ.sub 8 5 = some true) (b4 : Γ.sub 8 4 = some false) (b0 : Γ.sub 8 0 = some false) (b1 : Γ.sub 8 1 = some false) (b8 : Γ.sub 8 8 = some true) (b7 : Γ.sub 8 7 = some false) (b6 : Γ.sub 8 6 = some false) : BodyOkH Γ ir_66_said hsp_67_said := by
  rintro a act h Q R hs
  refine ⟨rfl, ?_⟩
  show wpSs (Γ.given a act) ir_66_said.body [.val (.ref a), .un, .un] h _
  simp only [ir_66_said, wpSs, wpS, wpE, wpEs, wpAnd, wpOr, wpI, wpF, wpT, wpH, Env.at, Env.put, Env.wipe, Env.nox, Slot.nox, wBin, binI, wCmp, cmpI, wBi, isTy, asL, asLT, bindT, bindTs, intsOf, boolsOf, atInt, ixL0, ixL1, ixL2, List.getElem?_cons_zero, List.getElem?_cons_succ, List.nil_append, List.cons_append, List.append_nil, if_true, ite_true, Env.nex, Slot.nex]
  refine ⟨rfl, hs _ _ (fun d h q => q) fun v h q => ?_⟩
  have e5 : (Γ.given a act).sub 8 5 = some true := b5
  have e4 : (Γ.given a act).sub 8 4 = some false := b4
  have e0 : (Γ.given a act).sub 8 0 = some false := b0
  have e1 : (Γ.given a act).sub 8 1 = some false := b1
  have e8 : (Γ.given a act).sub 8 8 = some true := b8
  have e7 : (Γ.given a act).sub 8 7 = some false := b7
  have e6 : (Γ.given a act).sub 8 6 = some false := b6
  have l3 : 3 ≤ SL := by decide
  have l6 : 6 ≤ SL := by decide
  have l2 : 2 ≤ SL := by decide
  dsimp only
  rw [e5]
  simp [wpSs, wpS, wpE, wpEs, wpAnd, wpOr, wpI, wpF, wpT, wpH, Env.at, Env.put, Env.wipe, Env.nox, Slot.nox, wBin, binI, wCmp, cmpI, wBi, isTy, asL, asLT, bindT, bindTs, intsOf, boolsOf, atInt, ixL0, ixL1, ixL2, List.getElem?_cons_zero, List.getElem?_cons_succ, List.nil_append, List.cons_append, List.append_nil, if_true, ite_true, e5, e4, e0, e1, e8, e7, e6, boolsOf, eqOk, D.pln, D.eqb, ixP, l3, l6, l2]
  exact ⟨⟨5, .inr e5⟩, q⟩
/-- read_decimal, of whatever -/
def sp_read67 : Spec := fun ds h Q R => sp_read_decimal ds h Q R ∨ ∃ d, ds = [d] ∧ isTy .str d = some false ∧ R ⟨8, .int (-1)⟩ h
theorem b_read67 {Γ : Gam} (g127 : Γ.fn 127 = sp_figures_end) (g128 : Γ.fn 128 = sp_last_part) (g129 : Γ.fn 129 = sp_reduced) : BodyOk Γ ir_read_decimal sp_read67 := by
  rintro ds h Q R (q | ⟨d, rfl, hd, q⟩)
  · exact b_read_decimal g127 g128 g129 ds h Q R q
  · refine ⟨rfl, ?_⟩
    show wpSs Γ ir_read_decimal.body [.val d, .un, .un, .un, .un, .un, .un] h (PBd Q R)
    simp only [ir_read_decimal, k_read_decimal_9, wpSs, wpS, wpE, Env.at, hd]
    exact q
theorem m_read67 : MoS sp_read67 := fun ds h Q Q' R R' k kr => by
  rintro (⟨s, e, sl, sc, q1, q2⟩ | ⟨d, e, hd, q⟩)
  · exact .inl ⟨s, e, sl, sc, fun n kk r z1 z2 => k _ _ (q1 n kk r z1 z2), fun x z => kr _ _ (q2 x z)⟩
  · exact .inr ⟨d, e, hd, kr _ _ q⟩
theorem RedD.ex {n k : Int} : ∃ r, RedD n k r := by
  by_cases c : n = 0
  · exact ⟨_, .inl ⟨c, rfl⟩⟩
  · have key : ∀ (m : Nat) (n : Int), n.natAbs ≤ m → n ≠ 0 → ∀ k, ∃ r, RedD n k r := by
      intro m
      induction m with
      | zero => intro n hn h0; omega
      | succ m ih =>
        intro n hn h0 k
        by_cases c : n % 10 = 0
        · obtain ⟨r, hr⟩ := ih (n / 10) (by omega) (by omega) (k + 1)
          rcases hr with ⟨z, _⟩ | ⟨_, j, e1, e2, e3⟩
          · omega
          · refine ⟨r, .inr ⟨h0, j + 1, ?_, by omega, e3⟩⟩
            have : n = n / 10 * 10 := by omega
            rw [this, e1, Int.pow_succ, Int.mul_assoc]
        · exact ⟨(n, k), .inr ⟨h0, 0, by simp, by simp, c⟩⟩
    exact key _ n (Nat.le_refl _) c k
theorem ask67 {s : List Nat} {h : AH} {Q : QE} (sl : s.length ≤ 5000) (sc : CpS s) (k1 : ∀ e : Nat, errT (rdT s) = some e → Q (text67 (.int (e : Nat))) h) (k2 : errT (rdT s) = none → ∀ r : Int × Int, Q (num r) h) : ∀ (Q' : QE) (R' : RE), (∀ d h, Q d h → Q' d h) → (∀ v h, Q (text67 v) h → R' ⟨8, v⟩ h) → sp_read67 [.str s] h Q' R' := fun Q' R' a b => by
  refine .inl ⟨s, rfl, sl, sc, fun n kk r z1 z2 => a _ _ (k2 (by rw [z1]; rfl) r), fun e z => b _ _ (k1 e (by rw [z]; rfl))⟩
/-- the rows of known texts -/
def rowB (d : D) : Bool := match d with
  | .tup [.str s, w] => decide (s.length ≤ 300) && s.all (· < 1114112) && (match w, errT (rdT s) with
    | .int i, some e => decide (i = (e : Int))
    | .non, none => true
    | _, _ => false)
  | _ => false
theorem rowB_ok {d : D} (h : rowB d = true) : ∃ s, d = .tup [.str s, oD (errT (rdT s))] ∧ s.length ≤ 300 ∧ CpS s := by
  unfold rowB at h
  split at h
  · rename_i s w
    obtain ⟨h, h3⟩ := Bool.and_eq_true_iff.mp h
    obtain ⟨h1, h2⟩ := Bool.and_eq_true_iff.mp h
    refine ⟨s, ?_, of_decide_eq_true h1, h2⟩
    split at h3
    · rename_i i e he
      rw [he, of_decide_eq_true h3]
      rfl
    · rename_i he
      rw [he]
      rfl
    · cases h3
  · cases h
theorem eqok_text {e : Nat} : eqOk (text67 (.int (e : Nat))) (text67 (.int (e : Nat))) := ⟨rfl, rfl⟩
def sp_67_known : Spec := fun ds h Q _ => ds = [] ∧ Q (.bl true) h
theorem b_67_known {Γ : Gam} (g131 : Γ.fn 131 = sp_read67) (ht : Γ.hf 1014 = hsp_67_said) : BodyOk Γ ir_67_known_right sp_67_known := by
  rintro ds h Q R ⟨rfl, q⟩
  refine ⟨rfl, ?_⟩
  show wpSs Γ ir_67_known_right.body [.un, .un, .un, .un, .un, .un, .un, .un] h (PBd Q R)
  have SLe : SL = 16777216 := rfl
  have fin : ∀ (rows : List D) (s1 : Slot), rows.all rowB = true → wpSs Γ k_67_known_right_9 [.val (.lst rows), s1, .un, .un, .un, .un, .un, .un] h (PBd Q R) := by
    intro rows s1 hr
    simp only [k_67_known_right_9, wpSs, wpS, wpE, wpEs, wpAnd, wpOr, wpI, wpF, wpT, wpH, Env.at, Env.put, Env.wipe, Env.nox, Slot.nox, wBin, binI, wCmp, cmpI, wBi, isTy, asL, asLT, bindT, bindTs, intsOf, boolsOf, atInt, ixL0, ixL1, ixL2, List.getElem?_cons_zero, List.getElem?_cons_succ, List.nil_append, List.cons_append, List.append_nil, if_true, ite_true]
    refine forL_inv _ (I := fun _ σ h' => h' = h ∧ ∃ s2 s3 s4, σ = [.val (.lst rows), s1, s2, s3, s4, .un, .un, .un]) (j := 0) (fun d hd' j σ h' hI P' hn' _ hrt hR => ?_) ⟨rfl, _, _, _, rfl⟩ ?_
    · obtain ⟨rfl, s2, s3, s4, rfl⟩ := hI
      obtain ⟨s, rfl, sl, sc⟩ := rowB_ok (List.all_eq_true.mp hr d hd')
      simp only [k_67_known_right_2, wpSs, wpS, wpE, wpEs, wpAnd, wpOr, wpI, wpF, wpT, wpH, Env.at, Env.put, Env.wipe, Env.nox, Slot.nox, wBin, binI, wCmp, cmpI, wBi, isTy, asL, asLT, bindT, bindTs, intsOf, boolsOf, atInt, ixL0, ixL1, ixL2, List.getElem?_cons_zero, List.getElem?_cons_succ, List.nil_append, List.cons_append, List.append_nil, if_true, ite_true, ht, g131]
      have l2 : 2 ≤ SL := by decide
      refine ask67 (by omega) sc (fun e he => ?_) (fun he r => ?_)
      · rw [he]
        simp only [oD, k_67_known_right_1, wpSs, wpS, wpE, wpEs, wpAnd, wpOr, wpI, wpF, wpT, wpH, Env.at, Env.put, Env.wipe, Env.nox, Slot.nox, wBin, binI, wCmp, cmpI, wBi, isTy, asL, asLT, bindT, bindTs, intsOf, boolsOf, atInt, ixL0, ixL1, ixL2, List.getElem?_cons_zero, List.getElem?_cons_succ, List.nil_append, List.cons_append, List.append_nil, if_true, ite_true, D.isNon]
        rw [if_pos (by rfl)]
        refine ⟨l2, eqok_text, ?_⟩
        have ee : D.eqb (text67 (.int (e : Nat))) (.tup [.str [116, 101, 120, 116], .int (e : Nat)]) = true := by
          show ((([116, 101, 120, 116] : List Nat) == [116, 101, 120, 116]) && (((e : Int) == (e : Int)) && true)) = true
          simp
        rw [ee]
        rw [if_neg (by simp)]
        simp only [Bool.false_eq_true, if_false, D.isNon, if_neg]
        exact hn' _ _ ⟨rfl, _, _, _, rfl⟩
      · rw [he]
        simp only [oD, k_67_known_right_1, wpSs, wpS, wpE, wpEs, wpAnd, wpOr, wpI, wpF, wpT, wpH, Env.at, Env.put, Env.wipe, Env.nox, Slot.nox, wBin, binI, wCmp, cmpI, wBi, isTy, asL, asLT, bindT, bindTs, intsOf, boolsOf, atInt, ixL0, ixL1, ixL2, List.getElem?_cons_zero, List.getElem?_cons_succ, List.nil_append, List.cons_append, List.append_nil, if_true, ite_true, D.isNon, num, fr]
        simp [ixP, eqOk, D.pln, D.eqb, wpSs]
        exact hn' _ _ ⟨rfl, _, _, _, rfl⟩
    · rintro σ h' ⟨rfl, s2, s3, s4, rfl⟩
      simp only [k_67_known_right_8, wpSs, wpS, wpE, wpEs, wpAnd, wpOr, wpI, wpF, wpT, wpH, Env.at, Env.put, Env.wipe, Env.nox, Slot.nox, wBin, binI, wCmp, cmpI, wBi, isTy, asL, asLT, bindT, bindTs, intsOf, boolsOf, atInt, ixL0, ixL1, ixL2, List.getElem?_cons_zero, List.getElem?_cons_succ, List.nil_append, List.cons_append, List.append_nil, if_true, ite_true]
      refine ⟨(show 0 ≤ SL by decide), ?_⟩
      simp only [k_67_known_right_7, wpSs, wpS, wpE, wpEs, wpAnd, wpOr, wpI, wpF, wpT, wpH, Env.at, Env.put, Env.wipe, Env.nox, Slot.nox, wBin, binI, wCmp, cmpI, wBi, isTy, asL, asLT, bindT, bindTs, intsOf, boolsOf, atInt, ixL0, ixL1, ixL2, List.getElem?_cons_zero, List.getElem?_cons_succ, List.nil_append, List.cons_append, List.append_nil, if_true, ite_true]
      refine ⟨by unfold okR; decide, ?_⟩
      refine forL_inv _ (I := fun _ σ hh => hh = h' ∧ ∃ l s6, σ = [.val (.lst rows), s1, s2, s3, s4, .val (.lst l), s6, .un]) (j := 0) (fun d hd j σ hh hI P' hn' _ hrt hR => ?_) ⟨rfl, _, _, rfl⟩ ?_
      · obtain ⟨rfl, l, s6, rfl⟩ := hI
        simp only [k_67_known_right_3, wpSs, wpS, wpE, wpEs, wpAnd, wpOr, wpI, wpF, wpT, wpH, Env.at, Env.put, Env.wipe, Env.nox, Slot.nox, wBin, binI, wCmp, cmpI, wBi, isTy, asL, asLT, bindT, bindTs, intsOf, boolsOf, atInt, ixL0, ixL1, ixL2, List.getElem?_cons_zero, List.getElem?_cons_succ, List.nil_append, List.cons_append, List.append_nil, if_true, ite_true]
        exact ⟨(show 1 ≤ SL by decide), hn' _ _ ⟨rfl, _, _, rfl⟩⟩
      · rintro σ hh ⟨rfl, l, s6, rfl⟩
        simp only [k_67_known_right_6, wpSs, wpS, wpE, wpEs, wpAnd, wpOr, wpI, wpF, wpT, wpH, Env.at, Env.put, Env.wipe, Env.nox, Slot.nox, wBin, binI, wCmp, cmpI, wBi, isTy, asL, asLT, bindT, bindTs, intsOf, boolsOf, atInt, ixL0, ixL1, ixL2, List.getElem?_cons_zero, List.getElem?_cons_succ, List.nil_append, List.cons_append, List.append_nil, if_true, ite_true]
        refine ⟨(show 1 ≤ SL by decide), (show 1 ≤ SL by decide), (show 7 ≤ SL by decide), ?_⟩
        refine forL_inv _ (I := fun _ σ h3 => h3 = hh ∧ ∃ s7, σ = [.val (.lst rows), s1, s2, s3, s4, .val (.lst l), s6, s7]) (j := 0) (fun d hd' j σ h3 hI P' hn' _ hrt hR => ?_) ⟨rfl, _, rfl⟩ ?_
        · obtain ⟨rfl, s7, rfl⟩ := hI
          have bad : isTy .str d = some false := by
            have : d = .non ∨ d = .int 5 ∨ d = .bl true ∨ d = .lst [.str [49]] ∨ d = .tup [.str [49]] ∨ d = .odd 0 ∨ d = .lst l := by simpa using hd'
            rcases this with rfl | rfl | rfl | rfl | rfl | rfl | rfl <;> rfl
          simp only [k_67_known_right_4, wpSs, wpS, wpE, wpEs, wpAnd, wpOr, wpI, wpF, wpT, wpH, Env.at, Env.put, Env.wipe, Env.nox, Slot.nox, wBin, binI, wCmp, cmpI, wBi, isTy, asL, asLT, bindT, bindTs, intsOf, boolsOf, atInt, ixL0, ixL1, ixL2, List.getElem?_cons_zero, List.getElem?_cons_succ, List.nil_append, List.cons_append, List.append_nil, if_true, ite_true, ht, g131]
          refine fun Q' R' k1 k2 => .inr ⟨d, rfl, bad, k2 _ _ ⟨(show 2 ≤ SL by decide), ⟨rfl, rfl⟩, ?_⟩⟩
          rw [show D.eqb (text67 (.int (-1))) (.tup [.str [116, 101, 120, 116], .int (-1)]) = true from by decide]
          simp only [Bool.not_true, Bool.false_eq_true, if_false]
          exact hn' _ _ ⟨rfl, _, rfl⟩
        · rintro σ h3 ⟨rfl, s7, rfl⟩
          simp only [k_67_known_right_5, wpSs, wpS, wpE, wpEs, wpAnd, wpOr, wpI, wpF, wpT, wpH, Env.at, Env.put, Env.wipe, Env.nox, Slot.nox, wBin, binI, wCmp, cmpI, wBi, isTy, asL, asLT, bindT, bindTs, intsOf, boolsOf, atInt, ixL0, ixL1, ixL2, List.getElem?_cons_zero, List.getElem?_cons_succ, List.nil_append, List.cons_append, List.append_nil, if_true, ite_true]
          exact q
  simp only [ir_67_known_right, k_67_known_right_15, wpSs, wpS, wpE, wpEs, wpAnd, wpOr, wpI, wpF, wpT, wpH, Env.at, Env.put, Env.wipe, Env.nox, Slot.nox, wBin, binI, wCmp, cmpI, wBi, isTy, asL, asLT, bindT, bindTs, intsOf, boolsOf, atInt, ixL0, ixL1, ixL2, List.getElem?_cons_zero, List.getElem?_cons_succ, List.nil_append, List.cons_append, List.append_nil, if_true, ite_true]
  repeat (refine ⟨(by decide), ?_⟩)
  simp only [k_67_known_right_14, wpSs, wpS, wpE, wpEs, wpAnd, wpOr, wpI, wpF, wpT, wpH, Env.at, Env.put, Env.wipe, Env.nox, Slot.nox, wBin, binI, wCmp, cmpI, wBi, isTy, asL, asLT, bindT, bindTs, intsOf, boolsOf, atInt, ixL0, ixL1, ixL2, List.getElem?_cons_zero, List.getElem?_cons_succ, List.nil_append, List.cons_append, List.append_nil, if_true, ite_true]
  repeat (refine ⟨(by decide), ?_⟩)
  exact fin _ _ (by decide +kernel)
def sp_law : Spec := fun ds h Q _ => ∃ l : List Int, ds = [.lst (l.map .int)] ∧ l.length < 1000 ∧ ∀ h', Q (.bl true) h'
theorem b_law {Γ : Gam} (hs : Γ.fn 1901 = sp_well) (hc : Γ.fn 1903 = sp_cell_at) (hd : Γ.fn 1900 = sp_draw) (h15 : Γ.fn 1015 = sp_66_text) (h16 : Γ.fn 1016 = sp_67_bent) (h17 : Γ.fn 1017 = sp_67_wrong) (h18 : Γ.fn 1018 = sp_67_known) (g131 : Γ.fn 131 = sp_read67) (ht : Γ.hf 1014 = hsp_67_said) : BodyOk Γ ir_67law sp_law := by
  rintro ds h Q R ⟨l, rfl, hl, q⟩
  refine ⟨rfl, ?_⟩
  show wpSs Γ ir_67law.body [.val (.lst (l.map .int)), .un, .un, .un, .un, .un, .un, .un] h (PBd Q R)
  simp only [ir_67law, k_67law_9, wpSs, wpS, wpE, wpEs, wpAnd, wpOr, wpI, wpF, wpT, wpH, Env.at, Env.put, Env.wipe, Env.nox, Slot.nox, wBin, binI, wCmp, cmpI, wBi, isTy, asL, asLT, bindT, bindTs, intsOf, boolsOf, atInt, ixL0, ixL1, ixL2, List.getElem?_cons_zero, List.getElem?_cons_succ, List.nil_append, List.cons_append, List.append_nil, if_true, ite_true, hc]
  refine ⟨l, 0, rfl, by omega, by decide, fun c0 => ?_⟩
  refine ⟨(show 1 ≤ SL by decide), ?_, ?_⟩
  · rw [List.length_drop, List.length_take, List.length_map]
    show 1 + _ ≤ 16777216
    omega
  rw [← List.map_take, ← List.map_drop]
  generalize (l.take (slP (l.map D.int).length 5)).drop (slP (l.map D.int).length 1) = m
  refine forL_inv _ (I := fun _ σ _ => ∃ s1 s2 s3 s4 s5 s6 s7, σ = [.val (.lst (l.map .int)), s1, s2, s3, s4, s5, s6, s7]) (j := 0) (fun d hd' j σ h' hI P' hn' _ hrt hR => ?_) ⟨_, _, _, _, _, _, _, rfl⟩ ?_
  · obtain ⟨s1, s2, s3, s4, s5, s6, s7, rfl⟩ := hI
    obtain ⟨c, rfl⟩ : ∃ c, d = .int c := by
      rcases List.mem_cons.mp hd' with z | z
      · exact ⟨c0, z⟩
      · obtain ⟨c, _, rfl⟩ := List.mem_map.mp z
        exact ⟨c, rfl⟩
    simp only [k_67law_7, wpSs, wpS, wpE, wpEs, wpAnd, wpOr, wpI, wpF, wpT, wpH, Env.at, Env.put, Env.wipe, Env.nox, Slot.nox, wBin, binI, wCmp, cmpI, wBi, isTy, asL, asLT, bindT, bindTs, intsOf, boolsOf, atInt, ixL0, ixL1, ixL2, List.getElem?_cons_zero, List.getElem?_cons_succ, List.nil_append, List.cons_append, List.append_nil, if_true, ite_true, hs]
    refine ⟨c, rfl, fun w h1 _ w1 _ => ?_⟩
    simp only [k_67law_6, wpSs, wpS, wpE, wpEs, wpAnd, wpOr, wpI, wpF, wpT, wpH, Env.at, Env.put, Env.wipe, Env.nox, Slot.nox, wBin, binI, wCmp, cmpI, wBi, isTy, asL, asLT, bindT, bindTs, intsOf, boolsOf, atInt, ixL0, ixL1, ixL2, List.getElem?_cons_zero, List.getElem?_cons_succ, List.nil_append, List.cons_append, List.append_nil, if_true, ite_true]
    refine ⟨by unfold okR; decide, ?_⟩
    refine forL_ix (I := fun j σ h' => ∃ s1 s3 s4 s5 s6 s7, σ = [.val (.lst (l.map .int)), s1, .val (.ref w), s3, s4, s5, s6, s7] ∧ Wel (1000 * j) h' w) (j := 0) _ (fun i d hdd σ h' hI P'' hn'' _ hrt'' hR'' => ?_) ⟨_, _, _, _, _, _, rfl, w1⟩ ?_
    · obtain ⟨s1, s3, s4, s5, s6, s7, rfl, wk⟩ := hI
      obtain ⟨rfl, il⟩ := rangeL_get hdd
      have il : i < 12 := il
      simp only [k_67law_5, wpSs, wpS, wpE, wpEs, wpAnd, wpOr, wpI, wpF, wpT, wpH, Env.at, Env.put, Env.wipe, Env.nox, Slot.nox, wBin, binI, wCmp, cmpI, wBi, isTy, asL, asLT, bindT, bindTs, intsOf, boolsOf, atInt, ixL0, ixL1, ixL2, List.getElem?_cons_zero, List.getElem?_cons_succ, List.nil_append, List.cons_append, List.append_nil, if_true, ite_true, h15]
      refine ⟨w, _, rfl, wk, by omega, fun s n kk r h2 hr1 hr2 sl sc w2 _ => ?_⟩
      simp only [asLT, ixP]
      simp only [k_67law_4, wpSs, wpS, wpE, wpEs, wpAnd, wpOr, wpI, wpF, wpT, wpH, Env.at, Env.put, Env.wipe, Env.nox, Slot.nox, wBin, binI, wCmp, cmpI, wBi, isTy, asL, asLT, bindT, bindTs, intsOf, boolsOf, atInt, ixL0, ixL1, ixL2, List.getElem?_cons_zero, List.getElem?_cons_succ, List.nil_append, List.cons_append, List.append_nil, if_true, ite_true, hd]
      refine ⟨w, 3, _, rfl, by decide, by decide, w2, by omega, fun x h3 x0 x3 w3 _ => ⟨by unfold okR; exact ⟨rfl, rfl⟩, ?_⟩⟩
      refine forL_ix (I := fun j σ h' => ∃ s1 s3 s5 s6 s7 t, σ = [.val (.lst (l.map .int)), s1, .val (.ref w), s3, .val (.str t), s5, s6, s7] ∧ (t.length : Nat) + 2 ≤ 2 ^ j * 302 ∧ CpS t ∧ Wel (1000 * (0 + i) + 101 + 3 * j) h' w) (j := 0) _ (fun a d hdd2 σ h' hI P3 hn3 _ hrt3 hR3 => ?_) ⟨_, _, _, _, _, _, rfl, by omega, sc, w3⟩ ?_
      · obtain ⟨s1, s3, s5, s6, s7, t, rfl, tl, tc, wt⟩ := hI
        obtain ⟨rfl, al⟩ := rangeL_get hdd2
        have al : a < 3 := by omega
        have tl' : t.length + 2 ≤ 302 * 4 := by
          have : 2 ^ (0 + a) ≤ 2 ^ 2 := Nat.pow_le_pow_right (by decide) (by omega)
          omega
        simp only [k_67law_1, wpSs, wpS, wpE, wpEs, wpAnd, wpOr, wpI, wpF, wpT, wpH, Env.at, Env.put, Env.wipe, Env.nox, Slot.nox, wBin, binI, wCmp, cmpI, wBi, isTy, asL, asLT, bindT, bindTs, intsOf, boolsOf, atInt, ixL0, ixL1, ixL2, List.getElem?_cons_zero, List.getElem?_cons_succ, List.nil_append, List.cons_append, List.append_nil, if_true, ite_true, h16]
        refine ⟨w, _, t, rfl, by omega, tc, wt, by omega, fun t2 h4 l4 c4 w4 _ => ?_⟩
        refine hn3 _ _ ⟨_, _, _, _, _, _, rfl, ?_, c4, w4.mono (by omega)⟩
        rw [Nat.pow_succ]
        omega
      · rintro σ h4 ⟨s1, s3, s5, s6, s7, t, rfl, tl, tc, wt⟩
        have ln : (rangeL 0 (1 + x).toNat).length ≤ 3 := by
          unfold rangeL
          rw [List.length_map, List.length_range]
          omega
        have tl' : t.length + 2 ≤ 302 * 8 := by
          have : 2 ^ (0 + (rangeL 0 (1 + x).toNat).length) ≤ 2 ^ 3 := Nat.pow_le_pow_right (by decide) (by omega)
          omega
        simp only [k_67law_3, wpSs, wpS, wpE, wpEs, wpAnd, wpOr, wpI, wpF, wpT, wpH, Env.at, Env.put, Env.wipe, Env.nox, Slot.nox, wBin, binI, wCmp, cmpI, wBi, isTy, asL, asLT, bindT, bindTs, intsOf, boolsOf, atInt, ixL0, ixL1, ixL2, List.getElem?_cons_zero, List.getElem?_cons_succ, List.nil_append, List.cons_append, List.append_nil, if_true, ite_true, h17, ht, g131]
        refine ⟨t, rfl, by omega, tc, ?_⟩
        have l2 : 2 ≤ SL := by decide
        refine ask67 (by omega) tc (fun e he => ?_) (fun he r => ?_)
        · rw [he]
          simp only [oD, k_67law_2, wpSs, wpS, wpE, wpEs, wpAnd, wpOr, wpI, wpF, wpT, wpH, Env.at, Env.put, Env.wipe, Env.nox, Slot.nox, wBin, binI, wCmp, cmpI, wBi, isTy, asL, asLT, bindT, bindTs, intsOf, boolsOf, atInt, ixL0, ixL1, ixL2, List.getElem?_cons_zero, List.getElem?_cons_succ, List.nil_append, List.cons_append, List.append_nil, if_true, ite_true, D.isNon]
          rw [if_pos (by rfl)]
          refine ⟨l2, eqok_text, ?_⟩
          have ee : D.eqb (text67 (.int (e : Nat))) (.tup [.str [116, 101, 120, 116], .int (e : Nat)]) = true := by
            show ((([116, 101, 120, 116] : List Nat) == [116, 101, 120, 116]) && (((e : Int) == (e : Int)) && true)) = true
            simp
          rw [ee]
          rw [if_neg (by simp)]
          simp only [Bool.false_eq_true, if_false, D.isNon, if_neg]
          exact hn'' _ _ ⟨_, _, _, _, _, _, rfl, wt.mono (by omega)⟩
        · rw [he]
          simp only [oD, k_67law_2, wpSs, wpS, wpE, wpEs, wpAnd, wpOr, wpI, wpF, wpT, wpH, Env.at, Env.put, Env.wipe, Env.nox, Slot.nox, wBin, binI, wCmp, cmpI, wBi, isTy, asL, asLT, bindT, bindTs, intsOf, boolsOf, atInt, ixL0, ixL1, ixL2, List.getElem?_cons_zero, List.getElem?_cons_succ, List.nil_append, List.cons_append, List.append_nil, if_true, ite_true, D.isNon, num, fr]
          simp [ixP, eqOk, D.pln, D.eqb, wpSs]
          exact hn'' _ _ ⟨_, _, _, _, _, _, rfl, wt.mono (by omega)⟩
    · rintro σ h' ⟨s1, s3, s4, s5, s6, s7, rfl, _⟩
      exact hn' _ _ ⟨_, _, _, _, _, _, _, rfl⟩
  · rintro σ h' ⟨s1, s2, s3, s4, s5, s6, s7, rfl⟩
    simp only [k_67law_8, wpSs, wpS, wpE, wpEs, wpAnd, wpOr, wpI, wpF, wpT, wpH, Env.at, Env.put, Env.wipe, Env.nox, Slot.nox, wBin, binI, wCmp, cmpI, wBi, isTy, asL, asLT, bindT, bindTs, intsOf, boolsOf, atInt, ixL0, ixL1, ixL2, List.getElem?_cons_zero, List.getElem?_cons_succ, List.nil_append, List.cons_append, List.append_nil, if_true, ite_true, h18]
    exact ⟨rfl, q _⟩
end FF
namespace FF
def ir_a_cell_at : Fd := ⟨2, 2, (.cons (.ite (.cmp .lt (.var 1) (.bi .len (.cons (.var 0) .nil))) (.cons (.ret (.idx (.var 0) (.var 1))) .nil) .nil) (.cons (.ret (.int 0)) .nil))⟩
end FF
namespace FF
/-! ### a number of the script, by a test -/
theorem b_a_cell_at {Γ : Gam} : BodyOk Γ ir_a_cell_at sp_cell_at := by
  rintro ds h Q R ⟨l, i, rfl, hl, i0, q⟩
  refine ⟨rfl, ?_⟩
  show wpSs Γ ir_a_cell_at.body [.val (.lst (l.map .int)), .val (.int i)] h _
  simp only [ir_a_cell_at, wpSs, wpS, wpE, wpEs, wpAnd, wpOr, wpI, wpF, wpT, wpH, Env.at, Env.put, Env.wipe, Env.nox, Slot.nox, wBin, binI, wCmp, cmpI, wBi, isTy, asL, asLT, bindT, bindTs, intsOf, boolsOf, atInt, ixL0, ixL1, ixL2, List.getElem?_cons_zero, List.getElem?_cons_succ, List.nil_append, List.cons_append, List.append_nil, if_true, ite_true, asLT]
  by_cases c : i < ((l.map D.int).length : Int)
  · rw [if_pos (decide_eq_true c)]
    have e1 : ixP (l.map D.int).length i = some i.toNat := by unfold ixP; rw [if_pos i0, if_pos c]
    have lt : i.toNat < l.length := by rw [List.length_map] at c; omega
    have e2 : (l.map D.int)[i.toNat]? = some (.int l[i.toNat]) := by rw [List.getElem?_map, List.getElem?_eq_getElem lt]; rfl
    simp only [e1, e2]
    exact q _
  · rw [if_neg (by simpa using c)]
    exact q 0
end FF
set_option maxHeartbeats 0
namespace FF
open PySem PySem.Spec PyProof.Rows L2
def tblL : List Str := ["precision", "low", "high", "first", "last", "top", "bottom", "ways", "slope", "shift", "steps", "form", "lowest", "factor", "whole", "tops", "line", "place", "addend", "done", "ahead", "start", "places", "far", "many", "sign"]
def N_reduced : List Str := ["n", "k"]
theorem sc_reduced : FnScope N_reduced ["n", "k"] (defScope (tp 12)) := FnScope.by (by decide +kernel)
def W_reduced : Wd := { fns := [], fnK := [], fnD := [], cons := [], tbl := tblL, cv := false, mks := [], mets := [], flds := [], iso := [], rss := [], hcl := [], xfs := [] }
theorem ck_reduced : chkSs W_reduced (ckOf N_reduced (defScope (tp 12))) ir_reduced.body (defBody (tp 12)) = true := by decide +kernel
def N_figures_end : List Str := ["text", "at", "most", "end"]
theorem sc_figures_end : FnScope N_figures_end ["text", "at", "most"] (defScope (tp 13)) := FnScope.by (by decide +kernel)
def W_figures_end : Wd := { fns := [], fnK := [], fnD := [], cons := [(10, "FIGURES", .str [48, 49, 50, 51, 52, 53, 54, 55, 56, 57])], tbl := tblL, cv := false, mks := [], mets := [], flds := [], iso := [], rss := [(8, "InvalidText")], hcl := [], xfs := [] }
theorem ck_figures_end : chkSs W_figures_end (ckOf N_figures_end (defScope (tp 13))) ir_figures_end.body (defBody (tp 13)) = true := by decide +kernel
def N_last_part : List Str := ["text", "at", "begin", "end", "k"]
theorem sc_last_part : FnScope N_last_part ["text", "at"] (defScope (tp 14)) := FnScope.by (by decide +kernel)
def W_last_part : Wd := { fns := [(127, "figures_end")], fnK := [], fnD := [], cons := [(11, "MOST_LAST_FIGURES", .int 3)], tbl := tblL, cv := false, mks := [], mets := [], flds := [], iso := [], rss := [], hcl := [], xfs := [] }
theorem ck_last_part : chkSs W_last_part (ckOf N_last_part (defScope (tp 14))) ir_last_part.body (defBody (tp 14)) = true := by decide +kernel
def N_read_decimal : List Str := ["text", "begin", "point", "end", "k", "behind", "n"]
theorem sc_read_decimal : FnScope N_read_decimal ["text"] (defScope (tp 15)) := FnScope.by (by decide +kernel)
def W_read_decimal : Wd := { fns := [(128, "last_part"), (127, "figures_end"), (129, "reduced")], fnK := [], fnD := [], cons := [(12, "MOST_FIGURES", .int 100)], tbl := tblL, cv := false, mks := [], mets := [], flds := [], iso := [], rss := [(8, "InvalidText")], hcl := [], xfs := [] }
theorem ck_read_decimal : chkSs W_read_decimal (ckOf N_read_decimal (defScope (tp 15))) ir_read_decimal.body (defBody (tp 15)) = true := by decide +kernel
def N_l_cell_at : List Str := ["_law_script", "_law_at"]
theorem sc_l_cell_at : FnScope N_l_cell_at ["_law_script", "_law_at"] (defScope (tp 17)) := FnScope.by (by decide +kernel)
def W_l_cell_at : Wd := { fns := [], fnK := [], fnD := [], cons := [], tbl := tblL, cv := false, mks := [], mets := [], flds := [], iso := [], rss := [], hcl := [], xfs := [] }
theorem ck_l_cell_at : chkSs W_l_cell_at (ckOf N_l_cell_at (defScope (tp 17))) ir_a_cell_at.body (defBody (tp 17)) = true := by decide +kernel
def N_l_source_of : List Str := ["_law_cell"]
theorem sc_l_source_of : FnScope N_l_source_of ["_law_cell"] (defScope (tp 18)) := FnScope.by (by decide +kernel)
def W_l_source_of : Wd := { fns := [], fnK := [], fnD := [], cons := [], tbl := tblL, cv := false, mks := [], mets := [], flds := [], iso := [], rss := [], hcl := [], xfs := [] }
theorem ck_l_source_of : chkSs W_l_source_of (ckOf N_l_source_of (defScope (tp 18))) ir_l_source_of.body (defBody (tp 18)) = true := by decide +kernel
def N_l_next : List Str := ["_law_source", "_law_many", "_law_found", "_law_prime", "_law_mixed"]
theorem sc_l_next : FnScope N_l_next ["_law_source", "_law_many"] (defScope (tp 19)) := FnScope.by (by decide +kernel)
def W_l_next : Wd := { fns := [], fnK := [], fnD := [], cons := [], tbl := tblL, cv := false, mks := [], mets := [], flds := [], iso := [], rss := [], hcl := [], xfs := [] }
theorem ck_l_next : chkSs W_l_next (ckOf N_l_next (defScope (tp 19))) ir_l_next.body (defBody (tp 19)) = true := by decide +kernel
def N_l_one : List Str := ["_law_source", "_law_some"]
theorem sc_l_one : FnScope N_l_one ["_law_source", "_law_some"] (defScope (tp 20)) := FnScope.by (by decide +kernel)
def W_l_one : Wd := { fns := [(1900, "_law_next")], fnK := [], fnD := [], cons := [], tbl := tblL, cv := false, mks := [], mets := [], flds := [], iso := [], rss := [], hcl := [], xfs := [] }
theorem ck_l_one : chkSs W_l_one (ckOf N_l_one (defScope (tp 20))) ir_l_one.body (defBody (tp 20)) = true := by decide +kernel
def N_l_wide : List Str := ["_law_source", "_law_many", "_law_found", "_law_most"]
theorem sc_l_wide : FnScope N_l_wide ["_law_source", "_law_many"] (defScope (tp 21)) := FnScope.by (by decide +kernel)
def W_l_wide : Wd := { fns := [(1900, "_law_next")], fnK := [], fnD := [], cons := [], tbl := tblL, cv := false, mks := [], mets := [], flds := [], iso := [], rss := [], hcl := [], xfs := [] }
theorem ck_l_wide : chkSs W_l_wide (ckOf N_l_wide (defScope (tp 21))) ir_66_wide.body (defBody (tp 21)) = true := by decide +kernel
def N_l_tens : List Str := ["_law_many"]
theorem sc_l_tens : FnScope N_l_tens ["_law_many"] (defScope (tp 22)) := FnScope.by (by decide +kernel)
def W_l_tens : Wd := { fns := [], fnK := [], fnD := [], cons := [], tbl := tblL, cv := false, mks := [], mets := [], flds := [], iso := [], rss := [], hcl := [], xfs := [] }
theorem ck_l_tens : chkSs W_l_tens (ckOf N_l_tens (defScope (tp 22))) ir_66_tens.body (defBody (tp 22)) = true := by decide +kernel
def N_l_reduced : List Str := ["_law_head", "_law_tail"]
theorem sc_l_reduced : FnScope N_l_reduced ["_law_head", "_law_tail"] (defScope (tp 23)) := FnScope.by (by decide +kernel)
def W_l_reduced : Wd := { fns := [], fnK := [], fnD := [], cons := [], tbl := tblL, cv := false, mks := [], mets := [], flds := [], iso := [], rss := [], hcl := [], xfs := [] }
theorem ck_l_reduced : chkSs W_l_reduced (ckOf N_l_reduced (defScope (tp 23))) ir_66_reduced.body (defBody (tp 23)) = true := by decide +kernel
def N_l_figures : List Str := ["_law_source", "_law_many", "_law_found"]
theorem sc_l_figures : FnScope N_l_figures ["_law_source", "_law_many"] (defScope (tp 24)) := FnScope.by (by decide +kernel)
def W_l_figures : Wd := { fns := [(1010, "_law_tens"), (1908, "_law_wide"), (1902, "_law_one")], fnK := [], fnD := [], cons := [], tbl := tblL, cv := false, mks := [], mets := [], flds := [], iso := [], rss := [], hcl := [], xfs := [] }
theorem ck_l_figures : chkSs W_l_figures (ckOf N_l_figures (defScope (tp 24))) ir_66_figures.body (defBody (tp 24)) = true := by decide +kernel
def N_l_text : List Str := ["_law_source", "_law_many", "_law_places", "_law_whole", "_law_part", "_law_tail", "_law_sign", "_law_head", "_law_found"]
theorem sc_l_text : FnScope N_l_text ["_law_source"] (defScope (tp 25)) := FnScope.by (by decide +kernel)
def W_l_text : Wd := { fns := [(1011, "_law_figures"), (1012, "_law_reduced"), (1902, "_law_one"), (1900, "_law_next")], fnK := [], fnD := [], cons := [], tbl := tblL, cv := false, mks := [], mets := [], flds := [], iso := [], rss := [], hcl := [], xfs := [] }
theorem ck_l_text : chkSs W_l_text (ckOf N_l_text (defScope (tp 25))) ir_66_text.body (defBody (tp 25)) = true := by decide +kernel
def N_l_said : List Str := ["_law_ask", "e", "_law_marks"]
theorem sc_l_said : FnScope N_l_said ["_law_ask"] (defScope (tp 26)) := FnScope.by (by decide +kernel)
def W_l_said : Wd := { fns := [], fnK := [], fnD := [], cons := [], tbl := tblL, cv := false, mks := [], mets := [], flds := [], iso := [], rss := [(1, "InvalidFormat"), (0, "InvalidBound"), (8, "InvalidText"), (7, "InvalidCall"), (4, "Overflow"), (6, "LimitExceeded")], hcl := [(5, "FloatsError"), (0, "InvalidBound"), (7, "InvalidCall"), (1, "InvalidFormat"), (8, "InvalidText"), (6, "LimitExceeded"), (4, "Overflow")], xfs := [(1, "part"), (0, "argument"), (8, "sign"), (7, "call"), (4, "sign"), (6, "limit")], isx := [(4, "Overflow"), (0, "InvalidBound"), (1, "InvalidFormat"), (8, "InvalidText"), (7, "InvalidCall"), (6, "LimitExceeded")], isA := true, acts := true }
theorem ck_l_said : chkSs W_l_said (ckOf N_l_said (defScope (tp 26))) ir_66_said.body (defBody (tp 26)) = true := by decide +kernel
def N_l_go : List Str := ["_law_state", "_law_many", "_law_sign", "_law_later"]
theorem sc_l_go : FnScope N_l_go ["_law_state", "_law_many", "_law_sign"] (defScope (tp 27)) := FnScope.by (by decide +kernel)
def W_l_go : Wd := { fns := [], fnK := [], fnD := [], cons := [], tbl := tblL, cv := false, mks := [], mets := [], flds := [], iso := [], rss := [], hcl := [], xfs := [] }
theorem ck_l_go : chkSs W_l_go (ckOf N_l_go (defScope (tp 27))) ir_67_go.body (defBody (tp 27)) = true := by decide +kernel
def N_l_wrong : List Str := ["_law_told", "_law_state", "_law_many", "_law_at", "_law_sign"]
theorem sc_l_wrong : FnScope N_l_wrong ["_law_told"] (defScope (tp 28)) := FnScope.by (by decide +kernel)
def W_l_wrong : Wd := { fns := [(1013, "_law_go")], fnK := [], fnD := [], cons := [], tbl := tblL, cv := false, mks := [], mets := [], flds := [], iso := [], rss := [], hcl := [], xfs := [] }
theorem ck_l_wrong : chkSs W_l_wrong (ckOf N_l_wrong (defScope (tp 28))) ir_67_wrong.body (defBody (tp 28)) = true := by decide +kernel
def N_l_bent : List Str := ["_law_source", "_law_told", "_law_at", "_law_size", "_law_sign", "_law_some"]
theorem sc_l_bent : FnScope N_l_bent ["_law_source", "_law_told"] (defScope (tp 29)) := FnScope.by (by decide +kernel)
def W_l_bent : Wd := { fns := [(1902, "_law_one"), (1900, "_law_next")], fnK := [], fnD := [], cons := [], tbl := tblL, cv := false, mks := [], mets := [], flds := [], iso := [], rss := [], hcl := [], xfs := [] }
theorem ck_l_bent : chkSs W_l_bent (ckOf N_l_bent (defScope (tp 29))) ir_67_bent.body (defBody (tp 29)) = true := by decide +kernel
def N_l_known_right : List Str := ["_law_rows", "_law_long", "_law_told", "_law_wanted", "_law_said_here", "_law_deep", "_law_turn", "_law_odd"]
theorem sc_l_known_right : FnScope N_l_known_right [] (defScope (tp 30)) := FnScope.by (by decide +kernel)
def W_l_known_right : Wd := { fns := [(131, "read_decimal")], fnK := [], fnD := [], cons := [], tbl := tblL, cv := false, mks := [], mets := [], flds := [], iso := [], rss := [], hcl := [], xfs := [], hfs := [(1014, "_law_said")], lm := true }
theorem ck_l_known_right : chkSs W_l_known_right (ckOf N_l_known_right (defScope (tp 30))) ir_67_known_right.body (defBody (tp 30)) = true := by decide +kernel
def N_law : List Str := ["_law_script", "_law_cell", "_law_source", "_law_turn", "_law_told", "_law_change", "_law_wrong_here", "_law_said_here"]
theorem sc_law : FnScope N_law ["_law_script"] (defScope (tp 31)) := FnScope.by (by decide +kernel)
def W_law : Wd := { fns := [(1018, "_law_known_right"), (1016, "_law_bent"), (1017, "_law_wrong"), (1015, "_law_text"), (1900, "_law_next"), (1901, "_law_source_of"), (1903, "_law_cell_at"), (131, "read_decimal")], fnK := [], fnD := [], cons := [], tbl := tblL, cv := false, mks := [], mets := [], flds := [], iso := [], rss := [], hcl := [], xfs := [], hfs := [(1014, "_law_said")], lm := true }
theorem ck_law : chkSs W_law (ckOf N_law (defScope (tp 31))) ir_67law.body (defBody (tp 31)) = true := by decide +kernel
end FF
set_option maxHeartbeats 0
namespace FF
open PySem PySem.Spec PyProof.Rows L2
theorem m_reduced : MoS sp_reduced := fun ds h Q Q' R R' k kr => by repeat' first | exact id | exact k _ _ | exact kr _ _ | refine Exists.imp fun _ => ?_ | refine And.imp ?_ ?_ | refine forall_imp fun _ => ?_
theorem m_figures_end : MoS sp_figures_end := fun ds h Q Q' R R' k kr => by repeat' first | exact id | exact k _ _ | exact kr _ _ | refine Exists.imp fun _ => ?_ | refine And.imp ?_ ?_ | refine forall_imp fun _ => ?_
theorem m_last_part : MoS sp_last_part := fun ds h Q Q' R R' k kr => by repeat' first | exact id | exact k _ _ | exact kr _ _ | refine Exists.imp fun _ => ?_ | refine And.imp ?_ ?_ | refine forall_imp fun _ => ?_
theorem m_66_wide : MoS sp_66_wide := fun ds h Q Q' R R' k kr => by repeat' first | exact id | exact k _ _ | exact kr _ _ | refine Exists.imp fun _ => ?_ | refine And.imp ?_ ?_ | refine forall_imp fun _ => ?_
theorem m_66_tens : MoS sp_66_tens := fun ds h Q Q' R R' k kr => by repeat' first | exact id | exact k _ _ | exact kr _ _ | refine Exists.imp fun _ => ?_ | refine And.imp ?_ ?_ | refine forall_imp fun _ => ?_
theorem m_66_reduced : MoS sp_66_reduced := fun ds h Q Q' R R' k kr => by repeat' first | exact id | exact k _ _ | exact kr _ _ | refine Exists.imp fun _ => ?_ | refine And.imp ?_ ?_ | refine forall_imp fun _ => ?_
theorem m_66_figures : MoS sp_66_figures := fun ds h Q Q' R R' k kr => by repeat' first | exact id | exact k _ _ | exact kr _ _ | refine Exists.imp fun _ => ?_ | refine And.imp ?_ ?_ | refine forall_imp fun _ => ?_
theorem m_66_text : MoS sp_66_text := fun ds h Q Q' R R' k kr => by repeat' first | exact id | exact k _ _ | exact kr _ _ | refine Exists.imp fun _ => ?_ | refine And.imp ?_ ?_ | refine forall_imp fun _ => ?_
theorem m_67_go : MoS sp_67_go := fun ds h Q Q' R R' k kr => by repeat' first | exact id | exact k _ _ | exact kr _ _ | refine Exists.imp fun _ => ?_ | refine And.imp ?_ ?_ | refine forall_imp fun _ => ?_
theorem m_67_wrong : MoS sp_67_wrong := fun ds h Q Q' R R' k kr => by repeat' first | exact id | exact k _ _ | exact kr _ _ | refine Exists.imp fun _ => ?_ | refine And.imp ?_ ?_ | refine forall_imp fun _ => ?_
theorem m_67_bent : MoS sp_67_bent := fun ds h Q Q' R R' k kr => by repeat' first | exact id | exact k _ _ | exact kr _ _ | refine Exists.imp fun _ => ?_ | refine And.imp ?_ ?_ | refine forall_imp fun _ => ?_
theorem m_67_known : MoS sp_67_known := fun ds h Q Q' R R' k kr => by repeat' first | exact id | exact k _ _ | exact kr _ _ | refine Exists.imp fun _ => ?_ | refine And.imp ?_ ?_ | refine forall_imp fun _ => ?_
theorem m_law : MoS sp_law := fun ds h Q Q' R R' k kr => by repeat' first | exact id | exact k _ _ | exact kr _ _ | refine Exists.imp fun _ => ?_ | refine And.imp ?_ ?_ | refine forall_imp fun _ => ?_
def tab : List (Nat × Spec) := [(129, sp_reduced), (127, sp_figures_end), (128, sp_last_part), (131, sp_read67), (1903, sp_cell_at), (1901, sp_well), (1900, sp_draw), (1902, sp_one), (1908, sp_66_wide), (1010, sp_66_tens), (1012, sp_66_reduced), (1011, sp_66_figures), (1015, sp_66_text), (1013, sp_67_go), (1017, sp_67_wrong), (1016, sp_67_bent), (1018, sp_67_known), (1019, sp_law)]
def hfL : List (Nat × HSpec) := [(1014, hsp_67_said)]
def subL : List ((Nat × Nat) × Bool) := [((8, 5), true), ((8, 4), false), ((8, 0), false), ((8, 1), false), ((8, 8), true), ((8, 7), false), ((8, 6), false)]
def cvL : List Nat := []
abbrev gm : Gam := gamOf tab subL hfL cvL
def ats : List (Nat × Str × Option Str) := [((129 : Nat), ("reduced" : Str), (none : Option Str)), ((127 : Nat), ("figures_end" : Str), (none : Option Str)), ((128 : Nat), ("last_part" : Str), (none : Option Str)), ((131 : Nat), ("read_decimal" : Str), (none : Option Str)), ((1903 : Nat), ("_law_cell_at" : Str), (none : Option Str)), ((1901 : Nat), ("_law_source_of" : Str), (none : Option Str)), ((1900 : Nat), ("_law_next" : Str), (none : Option Str)), ((1902 : Nat), ("_law_one" : Str), (none : Option Str)), ((1908 : Nat), ("_law_wide" : Str), (none : Option Str)), ((1010 : Nat), ("_law_tens" : Str), (none : Option Str)), ((1012 : Nat), ("_law_reduced" : Str), (none : Option Str)), ((1011 : Nat), ("_law_figures" : Str), (none : Option Str)), ((1015 : Nat), ("_law_text" : Str), (none : Option Str)), ((1014 : Nat), ("_law_said" : Str), (none : Option Str)), ((1013 : Nat), ("_law_go" : Str), (none : Option Str)), ((1017 : Nat), ("_law_wrong" : Str), (none : Option Str)), ((1016 : Nat), ("_law_bent" : Str), (none : Option Str)), ((1018 : Nat), ("_law_known_right" : Str), (none : Option Str)), ((1019 : Nat), ("law" : Str), (none : Option Str))]
def at0 : Str × Option Str := ("reduced", none)
def clsS (n : Nat) : Str := if n = 5 then "FloatsError" else if n = 1 then "InvalidFormat" else if n = 0 then "InvalidBound" else if n = 8 then "InvalidText" else if n = 7 then "InvalidCall" else if n = 4 then "Overflow" else if n = 6 then "LimitExceeded" else ""
def xfS (n : Nat) : Str := if n = 1 then "part" else if n = 0 then "argument" else if n = 8 then "sign" else if n = 7 then "call" else if n = 4 then "sign" else if n = 6 then "limit" else ""
abbrev tbK (K : PySem.W.Frag) : Tb := tbOf K ats at0 clsS tblL (by decide) xfS (lamL K tfL)
abbrev q_reduced : Nat × Str := (129, "reduced")
abbrev q_figures_end : Nat × Str := (127, "figures_end")
abbrev q_last_part : Nat × Str := (128, "last_part")
abbrev q_read_decimal : Nat × Str := (131, "read_decimal")
abbrev q_l_cell_at : Nat × Str := (1903, "_law_cell_at")
abbrev q_l_source_of : Nat × Str := (1901, "_law_source_of")
abbrev q_l_next : Nat × Str := (1900, "_law_next")
abbrev q_l_one : Nat × Str := (1902, "_law_one")
abbrev q_l_wide : Nat × Str := (1908, "_law_wide")
abbrev q_l_tens : Nat × Str := (1010, "_law_tens")
abbrev q_l_reduced : Nat × Str := (1012, "_law_reduced")
abbrev q_l_figures : Nat × Str := (1011, "_law_figures")
abbrev q_l_text : Nat × Str := (1015, "_law_text")
abbrev q_l_go : Nat × Str := (1013, "_law_go")
abbrev q_l_wrong : Nat × Str := (1017, "_law_wrong")
abbrev q_l_bent : Nat × Str := (1016, "_law_bent")
abbrev q_l_known_right : Nat × Str := (1018, "_law_known_right")
section
variable {P : Program} {w : World} {K : PySem.W.Frag} {h : Heap} {mg : Str → Option Value}
theorem st_g0 (X : K.In h) (G : h.Ns mainGlobals mg) (cc : SaysL faL fnL exL (tfL.map (·.1)) h K) {base : Heap} (fr : ∀ x ∈ stdNames, mg x = none) (sb : ∀ c1 c2 b, gm.sub c1 c2 = some b → PySem.W.exmOne K (.ref ((tbK K).cA c1)) (.ref ((tbK K).cA c2)) = some b) (l0 : Lv P w (tbK K) gm mg base 2 []) : Good P w (tbK K) mg base 3 129 (gm.fn 129) := by
  have c : SaysF faL fnL exL K := cc.f
  obtain ⟨fd0, F0⟩ := c.d.def_ 0 (d := d_reduced) rfl
  have F0 : FunD (tbK K).K "reduced" "reduced" (defArgs (tp 12)) (defBody (tp 12)) (defScope (tp 12)) [] [] ((tbK K).fA 129) fd0 := F0
  have sl_0 : ∀ p ∈ W_reduced.fns, p ∈ ([] : List (Nat × Str)) := fun p hp => by cases hp
  have cv_0 : W_reduced.cv = true → (∀ n, gm.cvs n → (∃ ds h Q R, gm.fn n ds h Q R) → Good P w (tbK K) mg base 2 n (gm.fn n)) ∧ (∀ n vs ds h Q R, ¬ gm.clo n vs ds h Q R) ∧ (∀ n, gm.cvs n → PySem.W.keepIn (tbK K).K (.ref ((tbK K).fA n)) = true) := fun z => by cases z
  have og0 : OkG W_reduced (tbK K) gm P w mg base 2 := {
    fr := fr,
    fns := fun p hp => l0 p (sl_0 p hp),
    fnK := (fun p hp => by cases hp),
    fnD := (fun p hp => by cases hp),
    cons := (fun p hp => by cases hp),
    tbl := rfl,
    cv := cv_0,
    mks := (fun p hp => by cases hp),
    mets := (fun p hp => by cases hp),
    flds := (fun p hp => by cases hp),
    iso := (fun p hp => by cases hp),
    rss := (fun p hp => by cases hp),
    hcl := (fun p hp => by cases hp),
    exm := sb,
    xfs := (fun p hp => by cases hp) }
  have g0 : Good P w (tbK K) mg base 3 129 (gm.fn 129) := good_mk F0 sc_reduced og0 rfl rfl ck_reduced (b_reduced.d m_reduced) fun _ _ _ _ _ _ us hl => match us, hl with | [_, _], _ => rfl
  exact g0
theorem st_g1 (X : K.In h) (G : h.Ns mainGlobals mg) (cc : SaysL faL fnL exL (tfL.map (·.1)) h K) {base : Heap} (fr : ∀ x ∈ stdNames, mg x = none) (gx_InvalidText : GoodX P w (tbK K) mg base 1 8) (sb : ∀ c1 c2 b, gm.sub c1 c2 = some b → PySem.W.exmOne K (.ref ((tbK K).cA c1)) (.ref ((tbK K).cA c2)) = some b) (l1 : Lv P w (tbK K) gm mg base 3 [q_reduced]) : Good P w (tbK K) mg base 4 127 (gm.fn 127) := by
  have c : SaysF faL fnL exL K := cc.f
  have mc_InvalidText : mg "InvalidText" = some (.ref ((tbK K).cA 8)) := He.glo_ok X G (c.d.fact 42 (f := .glo "InvalidText") rfl)
  have cn_FIGURES : ∃ v u, mg "FIGURES" = some u ∧ RelV v u ∧ ∀ F, Rep (tbK K) F (.str [48, 49, 50, 51, 52, 53, 54, 55, 56, 57]) v := by
    obtain ⟨t, e⟩ := He.str_ok X G (c.d.fact 46 (f := .str "FIGURES" (sOf [48, 49, 50, 51, 52, 53, 54, 55, 56, 57])) rfl)
    exact ⟨.str (sOf [48, 49, 50, 51, 52, 53, 54, 55, 56, 57]), _, e, ⟨_, rfl⟩, fun _ => .str⟩
  obtain ⟨fd1, F1⟩ := c.d.def_ 1 (d := d_figures_end) rfl
  have F1 : FunD (tbK K).K "figures_end" "figures_end" (defArgs (tp 13)) (defBody (tp 13)) (defScope (tp 13)) [] [] ((tbK K).fA 127) fd1 := F1
  have sl_1 : ∀ p ∈ W_figures_end.fns, p ∈ ([q_reduced] : List (Nat × Str)) := fun p hp => by cases hp
  have cv_1 : W_figures_end.cv = true → (∀ n, gm.cvs n → (∃ ds h Q R, gm.fn n ds h Q R) → Good P w (tbK K) mg base 3 n (gm.fn n)) ∧ (∀ n vs ds h Q R, ¬ gm.clo n vs ds h Q R) ∧ (∀ n, gm.cvs n → PySem.W.keepIn (tbK K).K (.ref ((tbK K).fA n)) = true) := fun z => by cases z
  have og1 : OkG W_figures_end (tbK K) gm P w mg base 3 := {
    fr := fr,
    fns := fun p hp => l1 p (sl_1 p hp),
    fnK := (fun p hp => by cases hp),
    fnD := (fun p hp => by cases hp),
    cons := (fun p hp => by
      unfold W_figures_end at hp
      simp only [List.mem_cons, List.not_mem_nil, or_false] at hp
      rcases hp with rfl
      · exact cn_FIGURES),
    tbl := rfl,
    cv := cv_1,
    mks := (fun p hp => by cases hp),
    mets := (fun p hp => by cases hp),
    flds := (fun p hp => by cases hp),
    iso := (fun p hp => by cases hp),
    rss := (fun p hp => by
      unfold W_figures_end at hp
      simp only [List.mem_cons, List.not_mem_nil, or_false] at hp
      rcases hp with rfl
      · exact ⟨1, by decide, gx_InvalidText, mc_InvalidText⟩),
    hcl := (fun p hp => by cases hp),
    exm := sb,
    xfs := (fun p hp => by cases hp) }
  have g1 : Good P w (tbK K) mg base 4 127 (gm.fn 127) := good_mk F1 sc_figures_end og1 rfl rfl ck_figures_end (b_figures_end.d m_figures_end) fun _ _ _ _ _ _ us hl => match us, hl with | [_, _, _], _ => rfl
  exact g1
theorem st_g2 (X : K.In h) (G : h.Ns mainGlobals mg) (cc : SaysL faL fnL exL (tfL.map (·.1)) h K) {base : Heap} (fr : ∀ x ∈ stdNames, mg x = none) (sb : ∀ c1 c2 b, gm.sub c1 c2 = some b → PySem.W.exmOne K (.ref ((tbK K).cA c1)) (.ref ((tbK K).cA c2)) = some b) (l2 : Lv P w (tbK K) gm mg base 4 [q_figures_end, q_reduced]) : Good P w (tbK K) mg base 5 128 (gm.fn 128) := by
  have c : SaysF faL fnL exL K := cc.f
  have cn_MOST_LAST_FIGURES : ∃ v u, mg "MOST_LAST_FIGURES" = some u ∧ RelV v u ∧ ∀ F, Rep (tbK K) F (.int 3) v := by
    obtain ⟨t, e⟩ := He.int_ok X G (c.d.fact 47 (f := .int "MOST_LAST_FIGURES" 3) rfl)
    exact ⟨.int 3, _, e, ⟨_, rfl⟩, fun _ => .int⟩
  obtain ⟨fd2, F2⟩ := c.d.def_ 2 (d := d_last_part) rfl
  have F2 : FunD (tbK K).K "last_part" "last_part" (defArgs (tp 14)) (defBody (tp 14)) (defScope (tp 14)) [] [] ((tbK K).fA 128) fd2 := F2
  have sl_2 : ∀ p ∈ W_last_part.fns, p ∈ ([q_figures_end, q_reduced] : List (Nat × Str)) := by decide +kernel
  have cv_2 : W_last_part.cv = true → (∀ n, gm.cvs n → (∃ ds h Q R, gm.fn n ds h Q R) → Good P w (tbK K) mg base 4 n (gm.fn n)) ∧ (∀ n vs ds h Q R, ¬ gm.clo n vs ds h Q R) ∧ (∀ n, gm.cvs n → PySem.W.keepIn (tbK K).K (.ref ((tbK K).fA n)) = true) := fun z => by cases z
  have og2 : OkG W_last_part (tbK K) gm P w mg base 4 := {
    fr := fr,
    fns := fun p hp => l2 p (sl_2 p hp),
    fnK := (fun p hp => by cases hp),
    fnD := (fun p hp => by cases hp),
    cons := (fun p hp => by
      unfold W_last_part at hp
      simp only [List.mem_cons, List.not_mem_nil, or_false] at hp
      rcases hp with rfl
      · exact cn_MOST_LAST_FIGURES),
    tbl := rfl,
    cv := cv_2,
    mks := (fun p hp => by cases hp),
    mets := (fun p hp => by cases hp),
    flds := (fun p hp => by cases hp),
    iso := (fun p hp => by cases hp),
    rss := (fun p hp => by cases hp),
    hcl := (fun p hp => by cases hp),
    exm := sb,
    xfs := (fun p hp => by cases hp) }
  have g2 : Good P w (tbK K) mg base 5 128 (gm.fn 128) := good_mk F2 sc_last_part og2 rfl rfl ck_last_part ((b_last_part (gam_at rfl)).d m_last_part) fun _ _ _ _ _ _ us hl => match us, hl with | [_, _], _ => rfl
  exact g2
theorem st_g3 (X : K.In h) (G : h.Ns mainGlobals mg) (cc : SaysL faL fnL exL (tfL.map (·.1)) h K) {base : Heap} (fr : ∀ x ∈ stdNames, mg x = none) (gx_InvalidText : GoodX P w (tbK K) mg base 1 8) (sb : ∀ c1 c2 b, gm.sub c1 c2 = some b → PySem.W.exmOne K (.ref ((tbK K).cA c1)) (.ref ((tbK K).cA c2)) = some b) (l3 : Lv P w (tbK K) gm mg base 5 [q_last_part, q_figures_end, q_reduced]) : Good P w (tbK K) mg base 6 131 (gm.fn 131) := by
  have c : SaysF faL fnL exL K := cc.f
  have mc_InvalidText : mg "InvalidText" = some (.ref ((tbK K).cA 8)) := He.glo_ok X G (c.d.fact 42 (f := .glo "InvalidText") rfl)
  have cn_MOST_FIGURES : ∃ v u, mg "MOST_FIGURES" = some u ∧ RelV v u ∧ ∀ F, Rep (tbK K) F (.int 100) v := by
    obtain ⟨t, e⟩ := He.int_ok X G (c.d.fact 48 (f := .int "MOST_FIGURES" 100) rfl)
    exact ⟨.int 100, _, e, ⟨_, rfl⟩, fun _ => .int⟩
  obtain ⟨fd3, F3⟩ := c.d.def_ 3 (d := d_read_decimal) rfl
  have F3 : FunD (tbK K).K "read_decimal" "read_decimal" (defArgs (tp 15)) (defBody (tp 15)) (defScope (tp 15)) [] [] ((tbK K).fA 131) fd3 := F3
  have sl_3 : ∀ p ∈ W_read_decimal.fns, p ∈ ([q_last_part, q_figures_end, q_reduced] : List (Nat × Str)) := by decide +kernel
  have cv_3 : W_read_decimal.cv = true → (∀ n, gm.cvs n → (∃ ds h Q R, gm.fn n ds h Q R) → Good P w (tbK K) mg base 5 n (gm.fn n)) ∧ (∀ n vs ds h Q R, ¬ gm.clo n vs ds h Q R) ∧ (∀ n, gm.cvs n → PySem.W.keepIn (tbK K).K (.ref ((tbK K).fA n)) = true) := fun z => by cases z
  have og3 : OkG W_read_decimal (tbK K) gm P w mg base 5 := {
    fr := fr,
    fns := fun p hp => l3 p (sl_3 p hp),
    fnK := (fun p hp => by cases hp),
    fnD := (fun p hp => by cases hp),
    cons := (fun p hp => by
      unfold W_read_decimal at hp
      simp only [List.mem_cons, List.not_mem_nil, or_false] at hp
      rcases hp with rfl
      · exact cn_MOST_FIGURES),
    tbl := rfl,
    cv := cv_3,
    mks := (fun p hp => by cases hp),
    mets := (fun p hp => by cases hp),
    flds := (fun p hp => by cases hp),
    iso := (fun p hp => by cases hp),
    rss := (fun p hp => by
      unfold W_read_decimal at hp
      simp only [List.mem_cons, List.not_mem_nil, or_false] at hp
      rcases hp with rfl
      · exact ⟨1, by decide, gx_InvalidText, mc_InvalidText⟩),
    hcl := (fun p hp => by cases hp),
    exm := sb,
    xfs := (fun p hp => by cases hp) }
  have g3 : Good P w (tbK K) mg base 6 131 (gm.fn 131) := good_mk F3 sc_read_decimal og3 rfl rfl ck_read_decimal ((b_read67 (gam_at rfl) (gam_at rfl) (gam_at rfl)).d m_read67) fun _ _ _ _ _ _ us hl => match us, hl with | [_], _ => rfl
  exact g3
theorem st_g4 (X : K.In h) (G : h.Ns mainGlobals mg) (cc : SaysL faL fnL exL (tfL.map (·.1)) h K) {base : Heap} (fr : ∀ x ∈ stdNames, mg x = none) (sb : ∀ c1 c2 b, gm.sub c1 c2 = some b → PySem.W.exmOne K (.ref ((tbK K).cA c1)) (.ref ((tbK K).cA c2)) = some b) (l4 : Lv P w (tbK K) gm mg base 6 [q_read_decimal, q_last_part, q_figures_end, q_reduced]) : Good P w (tbK K) mg base 7 1903 (gm.fn 1903) := by
  have c : SaysF faL fnL exL K := cc.f
  obtain ⟨fd4, F4⟩ := c.d.def_ 4 (d := d_l_cell_at) rfl
  have F4 : FunD (tbK K).K "_law_cell_at" "_law_cell_at" (defArgs (tp 17)) (defBody (tp 17)) (defScope (tp 17)) [] [] ((tbK K).fA 1903) fd4 := F4
  have sl_4 : ∀ p ∈ W_l_cell_at.fns, p ∈ ([q_read_decimal, q_last_part, q_figures_end, q_reduced] : List (Nat × Str)) := fun p hp => by cases hp
  have cv_4 : W_l_cell_at.cv = true → (∀ n, gm.cvs n → (∃ ds h Q R, gm.fn n ds h Q R) → Good P w (tbK K) mg base 6 n (gm.fn n)) ∧ (∀ n vs ds h Q R, ¬ gm.clo n vs ds h Q R) ∧ (∀ n, gm.cvs n → PySem.W.keepIn (tbK K).K (.ref ((tbK K).fA n)) = true) := fun z => by cases z
  have og4 : OkG W_l_cell_at (tbK K) gm P w mg base 6 := {
    fr := fr,
    fns := fun p hp => l4 p (sl_4 p hp),
    fnK := (fun p hp => by cases hp),
    fnD := (fun p hp => by cases hp),
    cons := (fun p hp => by cases hp),
    tbl := rfl,
    cv := cv_4,
    mks := (fun p hp => by cases hp),
    mets := (fun p hp => by cases hp),
    flds := (fun p hp => by cases hp),
    iso := (fun p hp => by cases hp),
    rss := (fun p hp => by cases hp),
    hcl := (fun p hp => by cases hp),
    exm := sb,
    xfs := (fun p hp => by cases hp) }
  have g4 : Good P w (tbK K) mg base 7 1903 (gm.fn 1903) := good_mk F4 sc_l_cell_at og4 rfl rfl ck_l_cell_at (b_a_cell_at.d m_cell_at) fun _ _ _ _ _ _ us hl => match us, hl with | [_, _], _ => rfl
  exact g4
theorem st_g5 (X : K.In h) (G : h.Ns mainGlobals mg) (cc : SaysL faL fnL exL (tfL.map (·.1)) h K) {base : Heap} (fr : ∀ x ∈ stdNames, mg x = none) (sb : ∀ c1 c2 b, gm.sub c1 c2 = some b → PySem.W.exmOne K (.ref ((tbK K).cA c1)) (.ref ((tbK K).cA c2)) = some b) (l5 : Lv P w (tbK K) gm mg base 7 [q_l_cell_at, q_read_decimal, q_last_part, q_figures_end, q_reduced]) : Good P w (tbK K) mg base 8 1901 (gm.fn 1901) := by
  have c : SaysF faL fnL exL K := cc.f
  obtain ⟨fd5, F5⟩ := c.d.def_ 5 (d := d_l_source_of) rfl
  have F5 : FunD (tbK K).K "_law_source_of" "_law_source_of" (defArgs (tp 18)) (defBody (tp 18)) (defScope (tp 18)) [] [] ((tbK K).fA 1901) fd5 := F5
  have sl_5 : ∀ p ∈ W_l_source_of.fns, p ∈ ([q_l_cell_at, q_read_decimal, q_last_part, q_figures_end, q_reduced] : List (Nat × Str)) := fun p hp => by cases hp
  have cv_5 : W_l_source_of.cv = true → (∀ n, gm.cvs n → (∃ ds h Q R, gm.fn n ds h Q R) → Good P w (tbK K) mg base 7 n (gm.fn n)) ∧ (∀ n vs ds h Q R, ¬ gm.clo n vs ds h Q R) ∧ (∀ n, gm.cvs n → PySem.W.keepIn (tbK K).K (.ref ((tbK K).fA n)) = true) := fun z => by cases z
  have og5 : OkG W_l_source_of (tbK K) gm P w mg base 7 := {
    fr := fr,
    fns := fun p hp => l5 p (sl_5 p hp),
    fnK := (fun p hp => by cases hp),
    fnD := (fun p hp => by cases hp),
    cons := (fun p hp => by cases hp),
    tbl := rfl,
    cv := cv_5,
    mks := (fun p hp => by cases hp),
    mets := (fun p hp => by cases hp),
    flds := (fun p hp => by cases hp),
    iso := (fun p hp => by cases hp),
    rss := (fun p hp => by cases hp),
    hcl := (fun p hp => by cases hp),
    exm := sb,
    xfs := (fun p hp => by cases hp) }
  have g5 : Good P w (tbK K) mg base 8 1901 (gm.fn 1901) := good_mk F5 sc_l_source_of og5 rfl rfl ck_l_source_of (b_source_of.d m_well) fun _ _ _ _ _ _ us hl => match us, hl with | [_], _ => rfl
  exact g5
theorem st_g6 (X : K.In h) (G : h.Ns mainGlobals mg) (cc : SaysL faL fnL exL (tfL.map (·.1)) h K) {base : Heap} (fr : ∀ x ∈ stdNames, mg x = none) (sb : ∀ c1 c2 b, gm.sub c1 c2 = some b → PySem.W.exmOne K (.ref ((tbK K).cA c1)) (.ref ((tbK K).cA c2)) = some b) (l6 : Lv P w (tbK K) gm mg base 8 [q_l_source_of, q_l_cell_at, q_read_decimal, q_last_part, q_figures_end, q_reduced]) : Good P w (tbK K) mg base 9 1900 (gm.fn 1900) := by
  have c : SaysF faL fnL exL K := cc.f
  obtain ⟨fd6, F6⟩ := c.d.def_ 6 (d := d_l_next) rfl
  have F6 : FunD (tbK K).K "_law_next" "_law_next" (defArgs (tp 19)) (defBody (tp 19)) (defScope (tp 19)) [] [] ((tbK K).fA 1900) fd6 := F6
  have sl_6 : ∀ p ∈ W_l_next.fns, p ∈ ([q_l_source_of, q_l_cell_at, q_read_decimal, q_last_part, q_figures_end, q_reduced] : List (Nat × Str)) := fun p hp => by cases hp
  have cv_6 : W_l_next.cv = true → (∀ n, gm.cvs n → (∃ ds h Q R, gm.fn n ds h Q R) → Good P w (tbK K) mg base 8 n (gm.fn n)) ∧ (∀ n vs ds h Q R, ¬ gm.clo n vs ds h Q R) ∧ (∀ n, gm.cvs n → PySem.W.keepIn (tbK K).K (.ref ((tbK K).fA n)) = true) := fun z => by cases z
  have og6 : OkG W_l_next (tbK K) gm P w mg base 8 := {
    fr := fr,
    fns := fun p hp => l6 p (sl_6 p hp),
    fnK := (fun p hp => by cases hp),
    fnD := (fun p hp => by cases hp),
    cons := (fun p hp => by cases hp),
    tbl := rfl,
    cv := cv_6,
    mks := (fun p hp => by cases hp),
    mets := (fun p hp => by cases hp),
    flds := (fun p hp => by cases hp),
    iso := (fun p hp => by cases hp),
    rss := (fun p hp => by cases hp),
    hcl := (fun p hp => by cases hp),
    exm := sb,
    xfs := (fun p hp => by cases hp) }
  have g6 : Good P w (tbK K) mg base 9 1900 (gm.fn 1900) := good_mk F6 sc_l_next og6 rfl rfl ck_l_next (b_next.d m_draw) fun _ _ _ _ _ _ us hl => match us, hl with | [_, _], _ => rfl
  exact g6
theorem st_g7 (X : K.In h) (G : h.Ns mainGlobals mg) (cc : SaysL faL fnL exL (tfL.map (·.1)) h K) {base : Heap} (fr : ∀ x ∈ stdNames, mg x = none) (sb : ∀ c1 c2 b, gm.sub c1 c2 = some b → PySem.W.exmOne K (.ref ((tbK K).cA c1)) (.ref ((tbK K).cA c2)) = some b) (l7 : Lv P w (tbK K) gm mg base 9 [q_l_next, q_l_source_of, q_l_cell_at, q_read_decimal, q_last_part, q_figures_end, q_reduced]) : Good P w (tbK K) mg base 10 1902 (gm.fn 1902) := by
  have c : SaysF faL fnL exL K := cc.f
  obtain ⟨fd7, F7⟩ := c.d.def_ 7 (d := d_l_one) rfl
  have F7 : FunD (tbK K).K "_law_one" "_law_one" (defArgs (tp 20)) (defBody (tp 20)) (defScope (tp 20)) [] [] ((tbK K).fA 1902) fd7 := F7
  have sl_7 : ∀ p ∈ W_l_one.fns, p ∈ ([q_l_next, q_l_source_of, q_l_cell_at, q_read_decimal, q_last_part, q_figures_end, q_reduced] : List (Nat × Str)) := by decide +kernel
  have cv_7 : W_l_one.cv = true → (∀ n, gm.cvs n → (∃ ds h Q R, gm.fn n ds h Q R) → Good P w (tbK K) mg base 9 n (gm.fn n)) ∧ (∀ n vs ds h Q R, ¬ gm.clo n vs ds h Q R) ∧ (∀ n, gm.cvs n → PySem.W.keepIn (tbK K).K (.ref ((tbK K).fA n)) = true) := fun z => by cases z
  have og7 : OkG W_l_one (tbK K) gm P w mg base 9 := {
    fr := fr,
    fns := fun p hp => l7 p (sl_7 p hp),
    fnK := (fun p hp => by cases hp),
    fnD := (fun p hp => by cases hp),
    cons := (fun p hp => by cases hp),
    tbl := rfl,
    cv := cv_7,
    mks := (fun p hp => by cases hp),
    mets := (fun p hp => by cases hp),
    flds := (fun p hp => by cases hp),
    iso := (fun p hp => by cases hp),
    rss := (fun p hp => by cases hp),
    hcl := (fun p hp => by cases hp),
    exm := sb,
    xfs := (fun p hp => by cases hp) }
  have g7 : Good P w (tbK K) mg base 10 1902 (gm.fn 1902) := good_mk F7 sc_l_one og7 rfl rfl ck_l_one ((b_one (gam_at rfl)).d m_one) fun _ _ _ _ _ _ us hl => match us, hl with | [_, _], _ => rfl
  exact g7
theorem st_g8 (X : K.In h) (G : h.Ns mainGlobals mg) (cc : SaysL faL fnL exL (tfL.map (·.1)) h K) {base : Heap} (fr : ∀ x ∈ stdNames, mg x = none) (sb : ∀ c1 c2 b, gm.sub c1 c2 = some b → PySem.W.exmOne K (.ref ((tbK K).cA c1)) (.ref ((tbK K).cA c2)) = some b) (l8 : Lv P w (tbK K) gm mg base 10 [q_l_one, q_l_next, q_l_source_of, q_l_cell_at, q_read_decimal, q_last_part, q_figures_end, q_reduced]) : Good P w (tbK K) mg base 11 1908 (gm.fn 1908) := by
  have c : SaysF faL fnL exL K := cc.f
  obtain ⟨fd8, F8⟩ := c.d.def_ 8 (d := d_l_wide) rfl
  have F8 : FunD (tbK K).K "_law_wide" "_law_wide" (defArgs (tp 21)) (defBody (tp 21)) (defScope (tp 21)) [] [] ((tbK K).fA 1908) fd8 := F8
  have sl_8 : ∀ p ∈ W_l_wide.fns, p ∈ ([q_l_one, q_l_next, q_l_source_of, q_l_cell_at, q_read_decimal, q_last_part, q_figures_end, q_reduced] : List (Nat × Str)) := by decide +kernel
  have cv_8 : W_l_wide.cv = true → (∀ n, gm.cvs n → (∃ ds h Q R, gm.fn n ds h Q R) → Good P w (tbK K) mg base 10 n (gm.fn n)) ∧ (∀ n vs ds h Q R, ¬ gm.clo n vs ds h Q R) ∧ (∀ n, gm.cvs n → PySem.W.keepIn (tbK K).K (.ref ((tbK K).fA n)) = true) := fun z => by cases z
  have og8 : OkG W_l_wide (tbK K) gm P w mg base 10 := {
    fr := fr,
    fns := fun p hp => l8 p (sl_8 p hp),
    fnK := (fun p hp => by cases hp),
    fnD := (fun p hp => by cases hp),
    cons := (fun p hp => by cases hp),
    tbl := rfl,
    cv := cv_8,
    mks := (fun p hp => by cases hp),
    mets := (fun p hp => by cases hp),
    flds := (fun p hp => by cases hp),
    iso := (fun p hp => by cases hp),
    rss := (fun p hp => by cases hp),
    hcl := (fun p hp => by cases hp),
    exm := sb,
    xfs := (fun p hp => by cases hp) }
  have g8 : Good P w (tbK K) mg base 11 1908 (gm.fn 1908) := good_mk F8 sc_l_wide og8 rfl rfl ck_l_wide ((b_66_wide (gam_at rfl)).d m_66_wide) fun _ _ _ _ _ _ us hl => match us, hl with | [_, _], _ => rfl
  exact g8
theorem st_g9 (X : K.In h) (G : h.Ns mainGlobals mg) (cc : SaysL faL fnL exL (tfL.map (·.1)) h K) {base : Heap} (fr : ∀ x ∈ stdNames, mg x = none) (sb : ∀ c1 c2 b, gm.sub c1 c2 = some b → PySem.W.exmOne K (.ref ((tbK K).cA c1)) (.ref ((tbK K).cA c2)) = some b) (l9 : Lv P w (tbK K) gm mg base 11 [q_l_wide, q_l_one, q_l_next, q_l_source_of, q_l_cell_at, q_read_decimal, q_last_part, q_figures_end, q_reduced]) : Good P w (tbK K) mg base 12 1010 (gm.fn 1010) := by
  have c : SaysF faL fnL exL K := cc.f
  obtain ⟨fd9, F9⟩ := c.d.def_ 9 (d := d_l_tens) rfl
  have F9 : FunD (tbK K).K "_law_tens" "_law_tens" (defArgs (tp 22)) (defBody (tp 22)) (defScope (tp 22)) [] [] ((tbK K).fA 1010) fd9 := F9
  have sl_9 : ∀ p ∈ W_l_tens.fns, p ∈ ([q_l_wide, q_l_one, q_l_next, q_l_source_of, q_l_cell_at, q_read_decimal, q_last_part, q_figures_end, q_reduced] : List (Nat × Str)) := fun p hp => by cases hp
  have cv_9 : W_l_tens.cv = true → (∀ n, gm.cvs n → (∃ ds h Q R, gm.fn n ds h Q R) → Good P w (tbK K) mg base 11 n (gm.fn n)) ∧ (∀ n vs ds h Q R, ¬ gm.clo n vs ds h Q R) ∧ (∀ n, gm.cvs n → PySem.W.keepIn (tbK K).K (.ref ((tbK K).fA n)) = true) := fun z => by cases z
  have og9 : OkG W_l_tens (tbK K) gm P w mg base 11 := {
    fr := fr,
    fns := fun p hp => l9 p (sl_9 p hp),
    fnK := (fun p hp => by cases hp),
    fnD := (fun p hp => by cases hp),
    cons := (fun p hp => by cases hp),
    tbl := rfl,
    cv := cv_9,
    mks := (fun p hp => by cases hp),
    mets := (fun p hp => by cases hp),
    flds := (fun p hp => by cases hp),
    iso := (fun p hp => by cases hp),
    rss := (fun p hp => by cases hp),
    hcl := (fun p hp => by cases hp),
    exm := sb,
    xfs := (fun p hp => by cases hp) }
  have g9 : Good P w (tbK K) mg base 12 1010 (gm.fn 1010) := good_mk F9 sc_l_tens og9 rfl rfl ck_l_tens (b_66_tens.d m_66_tens) fun _ _ _ _ _ _ us hl => match us, hl with | [_], _ => rfl
  exact g9
theorem st_g10 (X : K.In h) (G : h.Ns mainGlobals mg) (cc : SaysL faL fnL exL (tfL.map (·.1)) h K) {base : Heap} (fr : ∀ x ∈ stdNames, mg x = none) (sb : ∀ c1 c2 b, gm.sub c1 c2 = some b → PySem.W.exmOne K (.ref ((tbK K).cA c1)) (.ref ((tbK K).cA c2)) = some b) (l10 : Lv P w (tbK K) gm mg base 12 [q_l_tens, q_l_wide, q_l_one, q_l_next, q_l_source_of, q_l_cell_at, q_read_decimal, q_last_part, q_figures_end, q_reduced]) : Good P w (tbK K) mg base 13 1012 (gm.fn 1012) := by
  have c : SaysF faL fnL exL K := cc.f
  obtain ⟨fd10, F10⟩ := c.d.def_ 10 (d := d_l_reduced) rfl
  have F10 : FunD (tbK K).K "_law_reduced" "_law_reduced" (defArgs (tp 23)) (defBody (tp 23)) (defScope (tp 23)) [] [] ((tbK K).fA 1012) fd10 := F10
  have sl_10 : ∀ p ∈ W_l_reduced.fns, p ∈ ([q_l_tens, q_l_wide, q_l_one, q_l_next, q_l_source_of, q_l_cell_at, q_read_decimal, q_last_part, q_figures_end, q_reduced] : List (Nat × Str)) := fun p hp => by cases hp
  have cv_10 : W_l_reduced.cv = true → (∀ n, gm.cvs n → (∃ ds h Q R, gm.fn n ds h Q R) → Good P w (tbK K) mg base 12 n (gm.fn n)) ∧ (∀ n vs ds h Q R, ¬ gm.clo n vs ds h Q R) ∧ (∀ n, gm.cvs n → PySem.W.keepIn (tbK K).K (.ref ((tbK K).fA n)) = true) := fun z => by cases z
  have og10 : OkG W_l_reduced (tbK K) gm P w mg base 12 := {
    fr := fr,
    fns := fun p hp => l10 p (sl_10 p hp),
    fnK := (fun p hp => by cases hp),
    fnD := (fun p hp => by cases hp),
    cons := (fun p hp => by cases hp),
    tbl := rfl,
    cv := cv_10,
    mks := (fun p hp => by cases hp),
    mets := (fun p hp => by cases hp),
    flds := (fun p hp => by cases hp),
    iso := (fun p hp => by cases hp),
    rss := (fun p hp => by cases hp),
    hcl := (fun p hp => by cases hp),
    exm := sb,
    xfs := (fun p hp => by cases hp) }
  have g10 : Good P w (tbK K) mg base 13 1012 (gm.fn 1012) := good_mk F10 sc_l_reduced og10 rfl rfl ck_l_reduced (b_66_reduced.d m_66_reduced) fun _ _ _ _ _ _ us hl => match us, hl with | [_, _], _ => rfl
  exact g10
theorem st_g11 (X : K.In h) (G : h.Ns mainGlobals mg) (cc : SaysL faL fnL exL (tfL.map (·.1)) h K) {base : Heap} (fr : ∀ x ∈ stdNames, mg x = none) (sb : ∀ c1 c2 b, gm.sub c1 c2 = some b → PySem.W.exmOne K (.ref ((tbK K).cA c1)) (.ref ((tbK K).cA c2)) = some b) (l11 : Lv P w (tbK K) gm mg base 13 [q_l_reduced, q_l_tens, q_l_wide, q_l_one, q_l_next, q_l_source_of, q_l_cell_at, q_read_decimal, q_last_part, q_figures_end, q_reduced]) : Good P w (tbK K) mg base 14 1011 (gm.fn 1011) := by
  have c : SaysF faL fnL exL K := cc.f
  obtain ⟨fd11, F11⟩ := c.d.def_ 11 (d := d_l_figures) rfl
  have F11 : FunD (tbK K).K "_law_figures" "_law_figures" (defArgs (tp 24)) (defBody (tp 24)) (defScope (tp 24)) [] [] ((tbK K).fA 1011) fd11 := F11
  have sl_11 : ∀ p ∈ W_l_figures.fns, p ∈ ([q_l_reduced, q_l_tens, q_l_wide, q_l_one, q_l_next, q_l_source_of, q_l_cell_at, q_read_decimal, q_last_part, q_figures_end, q_reduced] : List (Nat × Str)) := by decide +kernel
  have cv_11 : W_l_figures.cv = true → (∀ n, gm.cvs n → (∃ ds h Q R, gm.fn n ds h Q R) → Good P w (tbK K) mg base 13 n (gm.fn n)) ∧ (∀ n vs ds h Q R, ¬ gm.clo n vs ds h Q R) ∧ (∀ n, gm.cvs n → PySem.W.keepIn (tbK K).K (.ref ((tbK K).fA n)) = true) := fun z => by cases z
  have og11 : OkG W_l_figures (tbK K) gm P w mg base 13 := {
    fr := fr,
    fns := fun p hp => l11 p (sl_11 p hp),
    fnK := (fun p hp => by cases hp),
    fnD := (fun p hp => by cases hp),
    cons := (fun p hp => by cases hp),
    tbl := rfl,
    cv := cv_11,
    mks := (fun p hp => by cases hp),
    mets := (fun p hp => by cases hp),
    flds := (fun p hp => by cases hp),
    iso := (fun p hp => by cases hp),
    rss := (fun p hp => by cases hp),
    hcl := (fun p hp => by cases hp),
    exm := sb,
    xfs := (fun p hp => by cases hp) }
  have g11 : Good P w (tbK K) mg base 14 1011 (gm.fn 1011) := good_mk F11 sc_l_figures og11 rfl rfl ck_l_figures ((b_66_figures (gam_at rfl) (gam_at rfl) (gam_at rfl)).d m_66_figures) fun _ _ _ _ _ _ us hl => match us, hl with | [_, _], _ => rfl
  exact g11
theorem st_g12 (X : K.In h) (G : h.Ns mainGlobals mg) (cc : SaysL faL fnL exL (tfL.map (·.1)) h K) {base : Heap} (fr : ∀ x ∈ stdNames, mg x = none) (sb : ∀ c1 c2 b, gm.sub c1 c2 = some b → PySem.W.exmOne K (.ref ((tbK K).cA c1)) (.ref ((tbK K).cA c2)) = some b) (l12 : Lv P w (tbK K) gm mg base 14 [q_l_figures, q_l_reduced, q_l_tens, q_l_wide, q_l_one, q_l_next, q_l_source_of, q_l_cell_at, q_read_decimal, q_last_part, q_figures_end, q_reduced]) : Good P w (tbK K) mg base 15 1015 (gm.fn 1015) := by
  have c : SaysF faL fnL exL K := cc.f
  obtain ⟨fd12, F12⟩ := c.d.def_ 12 (d := d_l_text) rfl
  have F12 : FunD (tbK K).K "_law_text" "_law_text" (defArgs (tp 25)) (defBody (tp 25)) (defScope (tp 25)) [] [] ((tbK K).fA 1015) fd12 := F12
  have sl_12 : ∀ p ∈ W_l_text.fns, p ∈ ([q_l_figures, q_l_reduced, q_l_tens, q_l_wide, q_l_one, q_l_next, q_l_source_of, q_l_cell_at, q_read_decimal, q_last_part, q_figures_end, q_reduced] : List (Nat × Str)) := by decide +kernel
  have cv_12 : W_l_text.cv = true → (∀ n, gm.cvs n → (∃ ds h Q R, gm.fn n ds h Q R) → Good P w (tbK K) mg base 14 n (gm.fn n)) ∧ (∀ n vs ds h Q R, ¬ gm.clo n vs ds h Q R) ∧ (∀ n, gm.cvs n → PySem.W.keepIn (tbK K).K (.ref ((tbK K).fA n)) = true) := fun z => by cases z
  have og12 : OkG W_l_text (tbK K) gm P w mg base 14 := {
    fr := fr,
    fns := fun p hp => l12 p (sl_12 p hp),
    fnK := (fun p hp => by cases hp),
    fnD := (fun p hp => by cases hp),
    cons := (fun p hp => by cases hp),
    tbl := rfl,
    cv := cv_12,
    mks := (fun p hp => by cases hp),
    mets := (fun p hp => by cases hp),
    flds := (fun p hp => by cases hp),
    iso := (fun p hp => by cases hp),
    rss := (fun p hp => by cases hp),
    hcl := (fun p hp => by cases hp),
    exm := sb,
    xfs := (fun p hp => by cases hp) }
  have g12 : Good P w (tbK K) mg base 15 1015 (gm.fn 1015) := good_mk F12 sc_l_text og12 rfl rfl ck_l_text ((b_66_text (gam_at rfl) (gam_at rfl) (gam_at rfl) (gam_at rfl)).d m_66_text) fun _ _ _ _ _ _ us hl => match us, hl with | [_], _ => rfl
  exact g12
theorem st_gh_l_said (X : K.In h) (G : h.Ns mainGlobals mg) (cc : SaysL faL fnL exL (tfL.map (·.1)) h K) {base : Heap} (fr : ∀ x ∈ stdNames, mg x = none) (gx_InvalidFormat : GoodX P w (tbK K) mg base 1 1) (gx_InvalidBound : GoodX P w (tbK K) mg base 1 0) (gx_InvalidText : GoodX P w (tbK K) mg base 1 8) (gx_InvalidCall : GoodX P w (tbK K) mg base 1 7) (gx_Overflow : GoodX P w (tbK K) mg base 1 4) (gx_LimitExceeded : GoodX P w (tbK K) mg base 1 6) (xx_InvalidFormat : (tbK K).xf 1 = "part" ∧ XfC (tbK K).K ((tbK K).cA 1) ∧ PySem.W.findIn (tbK K).K (.ref ((tbK K).cA 1)) "part" = some none) (xx_InvalidBound : (tbK K).xf 0 = "argument" ∧ XfC (tbK K).K ((tbK K).cA 0) ∧ PySem.W.findIn (tbK K).K (.ref ((tbK K).cA 0)) "argument" = some none) (xx_InvalidText : (tbK K).xf 8 = "sign" ∧ XfC (tbK K).K ((tbK K).cA 8) ∧ PySem.W.findIn (tbK K).K (.ref ((tbK K).cA 8)) "sign" = some none) (xx_InvalidCall : (tbK K).xf 7 = "call" ∧ XfC (tbK K).K ((tbK K).cA 7) ∧ PySem.W.findIn (tbK K).K (.ref ((tbK K).cA 7)) "call" = some none) (xx_Overflow : (tbK K).xf 4 = "sign" ∧ XfC (tbK K).K ((tbK K).cA 4) ∧ PySem.W.findIn (tbK K).K (.ref ((tbK K).cA 4)) "sign" = some none) (xx_LimitExceeded : (tbK K).xf 6 = "limit" ∧ XfC (tbK K).K ((tbK K).cA 6) ∧ PySem.W.findIn (tbK K).K (.ref ((tbK K).cA 6)) "limit" = some none) (sb : ∀ c1 c2 b, gm.sub c1 c2 = some b → PySem.W.exmOne K (.ref ((tbK K).cA c1)) (.ref ((tbK K).cA c2)) = some b) (kq_Overflow : mg "Overflow" = some (.ref ((tbK K).cA 4)) ∧ ∀ c1 b, gm.sub c1 4 = some b → ExcE (tbK K).K ((tbK K).cA c1) ∧ PySem.W.kitOne (tbK K).K (.ref ((tbK K).cA c1)) (.ref ((tbK K).cA 4)) = some b) (kq_InvalidBound : mg "InvalidBound" = some (.ref ((tbK K).cA 0)) ∧ ∀ c1 b, gm.sub c1 0 = some b → ExcE (tbK K).K ((tbK K).cA c1) ∧ PySem.W.kitOne (tbK K).K (.ref ((tbK K).cA c1)) (.ref ((tbK K).cA 0)) = some b) (kq_InvalidFormat : mg "InvalidFormat" = some (.ref ((tbK K).cA 1)) ∧ ∀ c1 b, gm.sub c1 1 = some b → ExcE (tbK K).K ((tbK K).cA c1) ∧ PySem.W.kitOne (tbK K).K (.ref ((tbK K).cA c1)) (.ref ((tbK K).cA 1)) = some b) (kq_InvalidText : mg "InvalidText" = some (.ref ((tbK K).cA 8)) ∧ ∀ c1 b, gm.sub c1 8 = some b → ExcE (tbK K).K ((tbK K).cA c1) ∧ PySem.W.kitOne (tbK K).K (.ref ((tbK K).cA c1)) (.ref ((tbK K).cA 8)) = some b) (kq_InvalidCall : mg "InvalidCall" = some (.ref ((tbK K).cA 7)) ∧ ∀ c1 b, gm.sub c1 7 = some b → ExcE (tbK K).K ((tbK K).cA c1) ∧ PySem.W.kitOne (tbK K).K (.ref ((tbK K).cA c1)) (.ref ((tbK K).cA 7)) = some b) (kq_LimitExceeded : mg "LimitExceeded" = some (.ref ((tbK K).cA 6)) ∧ ∀ c1 b, gm.sub c1 6 = some b → ExcE (tbK K).K ((tbK K).cA c1) ∧ PySem.W.kitOne (tbK K).K (.ref ((tbK K).cA c1)) (.ref ((tbK K).cA 6)) = some b) (kq_A : mg "ArithmeticError" = none ∧ ∀ c1 c2 b, gm.sub c1 c2 = some b → ExcE (tbK K).K ((tbK K).cA c1) ∧ PySem.W.kitOne (tbK K).K (.ref ((tbK K).cA c1)) (.type "ArithmeticError") = some true) (l13 : Lv P w (tbK K) gm mg base 15 [q_l_text, q_l_figures, q_l_reduced, q_l_tens, q_l_wide, q_l_one, q_l_next, q_l_source_of, q_l_cell_at, q_read_decimal, q_last_part, q_figures_end, q_reduced]) : GoodH P w (tbK K) mg base 15 1014 (gm.hf 1014) := by
  have c : SaysF faL fnL exL K := cc.f
  have mc_FloatsError : mg "FloatsError" = some (.ref ((tbK K).cA 5)) := He.glo_ok X G (c.d.fact 49 (f := .glo "FloatsError") rfl)
  have mc_InvalidFormat : mg "InvalidFormat" = some (.ref ((tbK K).cA 1)) := He.glo_ok X G (c.d.fact 41 (f := .glo "InvalidFormat") rfl)
  have mc_InvalidBound : mg "InvalidBound" = some (.ref ((tbK K).cA 0)) := He.glo_ok X G (c.d.fact 40 (f := .glo "InvalidBound") rfl)
  have mc_InvalidText : mg "InvalidText" = some (.ref ((tbK K).cA 8)) := He.glo_ok X G (c.d.fact 42 (f := .glo "InvalidText") rfl)
  have mc_InvalidCall : mg "InvalidCall" = some (.ref ((tbK K).cA 7)) := He.glo_ok X G (c.d.fact 43 (f := .glo "InvalidCall") rfl)
  have mc_Overflow : mg "Overflow" = some (.ref ((tbK K).cA 4)) := He.glo_ok X G (c.d.fact 39 (f := .glo "Overflow") rfl)
  have mc_LimitExceeded : mg "LimitExceeded" = some (.ref ((tbK K).cA 6)) := He.glo_ok X G (c.d.fact 44 (f := .glo "LimitExceeded") rfl)
  obtain ⟨fd13, F13⟩ := c.d.def_ 13 (d := d_l_said) rfl
  have F13 : FunD (tbK K).K "_law_said" "_law_said" (defArgs (tp 26)) (defBody (tp 26)) (defScope (tp 26)) [] [] ((tbK K).fA 1014) fd13 := F13
  have sl_13 : ∀ p ∈ W_l_said.fns, p ∈ ([q_l_text, q_l_figures, q_l_reduced, q_l_tens, q_l_wide, q_l_one, q_l_next, q_l_source_of, q_l_cell_at, q_read_decimal, q_last_part, q_figures_end, q_reduced] : List (Nat × Str)) := fun p hp => by cases hp
  have cv_13 : W_l_said.cv = true → (∀ n, gm.cvs n → (∃ ds h Q R, gm.fn n ds h Q R) → Good P w (tbK K) mg base 15 n (gm.fn n)) ∧ (∀ n vs ds h Q R, ¬ gm.clo n vs ds h Q R) ∧ (∀ n, gm.cvs n → PySem.W.keepIn (tbK K).K (.ref ((tbK K).fA n)) = true) := fun z => by cases z
  have og13 : OkG W_l_said (tbK K) gm P w mg base 15 := {
    fr := fr,
    fns := fun p hp => l13 p (sl_13 p hp),
    fnK := (fun p hp => by cases hp),
    fnD := (fun p hp => by cases hp),
    cons := (fun p hp => by cases hp),
    tbl := rfl,
    cv := cv_13,
    mks := (fun p hp => by cases hp),
    mets := (fun p hp => by cases hp),
    flds := (fun p hp => by cases hp),
    iso := (fun p hp => by cases hp),
    rss := (fun p hp => by
      unfold W_l_said at hp
      simp only [List.mem_cons, List.not_mem_nil, or_false] at hp
      rcases hp with rfl | rfl | rfl | rfl | rfl | rfl
      · exact ⟨1, by decide, gx_InvalidFormat, mc_InvalidFormat⟩
      · exact ⟨1, by decide, gx_InvalidBound, mc_InvalidBound⟩
      · exact ⟨1, by decide, gx_InvalidText, mc_InvalidText⟩
      · exact ⟨1, by decide, gx_InvalidCall, mc_InvalidCall⟩
      · exact ⟨1, by decide, gx_Overflow, mc_Overflow⟩
      · exact ⟨1, by decide, gx_LimitExceeded, mc_LimitExceeded⟩),
    hcl := (fun p hp => by
      unfold W_l_said at hp
      simp only [List.mem_cons, List.not_mem_nil, or_false] at hp
      rcases hp with rfl | rfl | rfl | rfl | rfl | rfl | rfl
      · exact mc_FloatsError
      · exact mc_InvalidBound
      · exact mc_InvalidCall
      · exact mc_InvalidFormat
      · exact mc_InvalidText
      · exact mc_LimitExceeded
      · exact mc_Overflow),
    exm := sb,
    xfs := (fun p hp => by
      unfold W_l_said at hp
      simp only [List.mem_cons, List.not_mem_nil, or_false] at hp
      rcases hp with rfl | rfl | rfl | rfl | rfl | rfl
      · exact xx_InvalidFormat
      · exact xx_InvalidBound
      · exact xx_InvalidText
      · exact xx_InvalidCall
      · exact xx_Overflow
      · exact xx_LimitExceeded),
    isx := (fun p hp => by
      unfold W_l_said at hp
      simp only [List.mem_cons, List.not_mem_nil, or_false] at hp
      rcases hp with rfl | rfl | rfl | rfl | rfl | rfl
      · exact kq_Overflow
      · exact kq_InvalidBound
      · exact kq_InvalidFormat
      · exact kq_InvalidText
      · exact kq_InvalidCall
      · exact kq_LimitExceeded),
    isA := fun _ => kq_A }
  have gh_l_said : GoodH P w (tbK K) mg base 15 1014 (gm.hf 1014) := goodH_mk F13 sc_l_said og13 rfl ck_l_said (bh_67_said rfl rfl rfl rfl rfl rfl rfl) rfl (by decide +kernel) fun _ _ _ _ _ _ us hl => match us, hl with | [_], _ => rfl
  exact gh_l_said
theorem st_g14 (X : K.In h) (G : h.Ns mainGlobals mg) (cc : SaysL faL fnL exL (tfL.map (·.1)) h K) {base : Heap} (fr : ∀ x ∈ stdNames, mg x = none) (sb : ∀ c1 c2 b, gm.sub c1 c2 = some b → PySem.W.exmOne K (.ref ((tbK K).cA c1)) (.ref ((tbK K).cA c2)) = some b) (l14 : Lv P w (tbK K) gm mg base 16 [q_l_text, q_l_figures, q_l_reduced, q_l_tens, q_l_wide, q_l_one, q_l_next, q_l_source_of, q_l_cell_at, q_read_decimal, q_last_part, q_figures_end, q_reduced]) : Good P w (tbK K) mg base 17 1013 (gm.fn 1013) := by
  have c : SaysF faL fnL exL K := cc.f
  obtain ⟨fd14, F14⟩ := c.d.def_ 14 (d := d_l_go) rfl
  have F14 : FunD (tbK K).K "_law_go" "_law_go" (defArgs (tp 27)) (defBody (tp 27)) (defScope (tp 27)) [] [] ((tbK K).fA 1013) fd14 := F14
  have sl_14 : ∀ p ∈ W_l_go.fns, p ∈ ([q_l_text, q_l_figures, q_l_reduced, q_l_tens, q_l_wide, q_l_one, q_l_next, q_l_source_of, q_l_cell_at, q_read_decimal, q_last_part, q_figures_end, q_reduced] : List (Nat × Str)) := fun p hp => by cases hp
  have cv_14 : W_l_go.cv = true → (∀ n, gm.cvs n → (∃ ds h Q R, gm.fn n ds h Q R) → Good P w (tbK K) mg base 16 n (gm.fn n)) ∧ (∀ n vs ds h Q R, ¬ gm.clo n vs ds h Q R) ∧ (∀ n, gm.cvs n → PySem.W.keepIn (tbK K).K (.ref ((tbK K).fA n)) = true) := fun z => by cases z
  have og14 : OkG W_l_go (tbK K) gm P w mg base 16 := {
    fr := fr,
    fns := fun p hp => l14 p (sl_14 p hp),
    fnK := (fun p hp => by cases hp),
    fnD := (fun p hp => by cases hp),
    cons := (fun p hp => by cases hp),
    tbl := rfl,
    cv := cv_14,
    mks := (fun p hp => by cases hp),
    mets := (fun p hp => by cases hp),
    flds := (fun p hp => by cases hp),
    iso := (fun p hp => by cases hp),
    rss := (fun p hp => by cases hp),
    hcl := (fun p hp => by cases hp),
    exm := sb,
    xfs := (fun p hp => by cases hp) }
  have g14 : Good P w (tbK K) mg base 17 1013 (gm.fn 1013) := good_mk F14 sc_l_go og14 rfl rfl ck_l_go (b_67_go.d m_67_go) fun _ _ _ _ _ _ us hl => match us, hl with | [_, _, _], _ => rfl
  exact g14
theorem st_g15 (X : K.In h) (G : h.Ns mainGlobals mg) (cc : SaysL faL fnL exL (tfL.map (·.1)) h K) {base : Heap} (fr : ∀ x ∈ stdNames, mg x = none) (sb : ∀ c1 c2 b, gm.sub c1 c2 = some b → PySem.W.exmOne K (.ref ((tbK K).cA c1)) (.ref ((tbK K).cA c2)) = some b) (l15 : Lv P w (tbK K) gm mg base 17 [q_l_go, q_l_text, q_l_figures, q_l_reduced, q_l_tens, q_l_wide, q_l_one, q_l_next, q_l_source_of, q_l_cell_at, q_read_decimal, q_last_part, q_figures_end, q_reduced]) : Good P w (tbK K) mg base 18 1017 (gm.fn 1017) := by
  have c : SaysF faL fnL exL K := cc.f
  obtain ⟨fd15, F15⟩ := c.d.def_ 15 (d := d_l_wrong) rfl
  have F15 : FunD (tbK K).K "_law_wrong" "_law_wrong" (defArgs (tp 28)) (defBody (tp 28)) (defScope (tp 28)) [] [] ((tbK K).fA 1017) fd15 := F15
  have sl_15 : ∀ p ∈ W_l_wrong.fns, p ∈ ([q_l_go, q_l_text, q_l_figures, q_l_reduced, q_l_tens, q_l_wide, q_l_one, q_l_next, q_l_source_of, q_l_cell_at, q_read_decimal, q_last_part, q_figures_end, q_reduced] : List (Nat × Str)) := by decide +kernel
  have cv_15 : W_l_wrong.cv = true → (∀ n, gm.cvs n → (∃ ds h Q R, gm.fn n ds h Q R) → Good P w (tbK K) mg base 17 n (gm.fn n)) ∧ (∀ n vs ds h Q R, ¬ gm.clo n vs ds h Q R) ∧ (∀ n, gm.cvs n → PySem.W.keepIn (tbK K).K (.ref ((tbK K).fA n)) = true) := fun z => by cases z
  have og15 : OkG W_l_wrong (tbK K) gm P w mg base 17 := {
    fr := fr,
    fns := fun p hp => l15 p (sl_15 p hp),
    fnK := (fun p hp => by cases hp),
    fnD := (fun p hp => by cases hp),
    cons := (fun p hp => by cases hp),
    tbl := rfl,
    cv := cv_15,
    mks := (fun p hp => by cases hp),
    mets := (fun p hp => by cases hp),
    flds := (fun p hp => by cases hp),
    iso := (fun p hp => by cases hp),
    rss := (fun p hp => by cases hp),
    hcl := (fun p hp => by cases hp),
    exm := sb,
    xfs := (fun p hp => by cases hp) }
  have g15 : Good P w (tbK K) mg base 18 1017 (gm.fn 1017) := good_mk F15 sc_l_wrong og15 rfl rfl ck_l_wrong ((b_67_wrong (gam_at rfl)).d m_67_wrong) fun _ _ _ _ _ _ us hl => match us, hl with | [_], _ => rfl
  exact g15
theorem st_g16 (X : K.In h) (G : h.Ns mainGlobals mg) (cc : SaysL faL fnL exL (tfL.map (·.1)) h K) {base : Heap} (fr : ∀ x ∈ stdNames, mg x = none) (sb : ∀ c1 c2 b, gm.sub c1 c2 = some b → PySem.W.exmOne K (.ref ((tbK K).cA c1)) (.ref ((tbK K).cA c2)) = some b) (l16 : Lv P w (tbK K) gm mg base 18 [q_l_wrong, q_l_go, q_l_text, q_l_figures, q_l_reduced, q_l_tens, q_l_wide, q_l_one, q_l_next, q_l_source_of, q_l_cell_at, q_read_decimal, q_last_part, q_figures_end, q_reduced]) : Good P w (tbK K) mg base 19 1016 (gm.fn 1016) := by
  have c : SaysF faL fnL exL K := cc.f
  obtain ⟨fd16, F16⟩ := c.d.def_ 16 (d := d_l_bent) rfl
  have F16 : FunD (tbK K).K "_law_bent" "_law_bent" (defArgs (tp 29)) (defBody (tp 29)) (defScope (tp 29)) [] [] ((tbK K).fA 1016) fd16 := F16
  have sl_16 : ∀ p ∈ W_l_bent.fns, p ∈ ([q_l_wrong, q_l_go, q_l_text, q_l_figures, q_l_reduced, q_l_tens, q_l_wide, q_l_one, q_l_next, q_l_source_of, q_l_cell_at, q_read_decimal, q_last_part, q_figures_end, q_reduced] : List (Nat × Str)) := by decide +kernel
  have cv_16 : W_l_bent.cv = true → (∀ n, gm.cvs n → (∃ ds h Q R, gm.fn n ds h Q R) → Good P w (tbK K) mg base 18 n (gm.fn n)) ∧ (∀ n vs ds h Q R, ¬ gm.clo n vs ds h Q R) ∧ (∀ n, gm.cvs n → PySem.W.keepIn (tbK K).K (.ref ((tbK K).fA n)) = true) := fun z => by cases z
  have og16 : OkG W_l_bent (tbK K) gm P w mg base 18 := {
    fr := fr,
    fns := fun p hp => l16 p (sl_16 p hp),
    fnK := (fun p hp => by cases hp),
    fnD := (fun p hp => by cases hp),
    cons := (fun p hp => by cases hp),
    tbl := rfl,
    cv := cv_16,
    mks := (fun p hp => by cases hp),
    mets := (fun p hp => by cases hp),
    flds := (fun p hp => by cases hp),
    iso := (fun p hp => by cases hp),
    rss := (fun p hp => by cases hp),
    hcl := (fun p hp => by cases hp),
    exm := sb,
    xfs := (fun p hp => by cases hp) }
  have g16 : Good P w (tbK K) mg base 19 1016 (gm.fn 1016) := good_mk F16 sc_l_bent og16 rfl rfl ck_l_bent ((b_67_bent (gam_at rfl) (gam_at rfl)).d m_67_bent) fun _ _ _ _ _ _ us hl => match us, hl with | [_, _], _ => rfl
  exact g16
theorem st_g17 (X : K.In h) (G : h.Ns mainGlobals mg) (cc : SaysL faL fnL exL (tfL.map (·.1)) h K) {base : Heap} (fr : ∀ x ∈ stdNames, mg x = none) (sb : ∀ c1 c2 b, gm.sub c1 c2 = some b → PySem.W.exmOne K (.ref ((tbK K).cA c1)) (.ref ((tbK K).cA c2)) = some b) (gh_l_said : GoodH P w (tbK K) mg base 15 1014 (gm.hf 1014)) (l17 : Lv P w (tbK K) gm mg base 19 [q_l_bent, q_l_wrong, q_l_go, q_l_text, q_l_figures, q_l_reduced, q_l_tens, q_l_wide, q_l_one, q_l_next, q_l_source_of, q_l_cell_at, q_read_decimal, q_last_part, q_figures_end, q_reduced]) (TBs : ∀ p ∈ tfL.map (·.1), LamX.TabB base mg (He.cT K p).1 (He.cT K p).2) : Good P w (tbK K) mg base 22 1018 (gm.fn 1018) := by
  have c : SaysF faL fnL exL K := cc.f
  have m13 : mg "_law_said" = some (.ref ((tbK K).fA 1014)) := He.glo_ok X G (c.d.fact 13 (f := .glo "_law_said") rfl)
  obtain ⟨fd17, F17⟩ := c.d.def_ 17 (d := d_l_known_right) rfl
  have F17 : FunD (tbK K).K "_law_known_right" "_law_known_right" (defArgs (tp 30)) (defBody (tp 30)) (defScope (tp 30)) [] [] ((tbK K).fA 1018) fd17 := F17
  have sl_17 : ∀ p ∈ W_l_known_right.fns, p ∈ ([q_l_bent, q_l_wrong, q_l_go, q_l_text, q_l_figures, q_l_reduced, q_l_tens, q_l_wide, q_l_one, q_l_next, q_l_source_of, q_l_cell_at, q_read_decimal, q_last_part, q_figures_end, q_reduced] : List (Nat × Str)) := by decide +kernel
  have cv_17 : W_l_known_right.cv = true → (∀ n, gm.cvs n → (∃ ds h Q R, gm.fn n ds h Q R) → Good P w (tbK K) mg base 19 n (gm.fn n)) ∧ (∀ n vs ds h Q R, ¬ gm.clo n vs ds h Q R) ∧ (∀ n, gm.cvs n → PySem.W.keepIn (tbK K).K (.ref ((tbK K).fA n)) = true) := fun z => by cases z
  have og17 : OkG W_l_known_right (tbK K) gm P w mg base 19 := {
    fr := fr,
    fns := fun p hp => l17 p (sl_17 p hp),
    fnK := (fun p hp => by cases hp),
    fnD := (fun p hp => by cases hp),
    cons := (fun p hp => by cases hp),
    tbl := rfl,
    cv := cv_17,
    mks := (fun p hp => by cases hp),
    mets := (fun p hp => by cases hp),
    flds := (fun p hp => by cases hp),
    iso := (fun p hp => by cases hp),
    rss := (fun p hp => by cases hp),
    hcl := (fun p hp => by cases hp),
    exm := sb,
    xfs := (fun p hp => by cases hp),
    hfs := (fun p hp => by
      unfold W_l_known_right at hp
      simp only [List.mem_cons, List.not_mem_nil, or_false] at hp
      rcases hp with rfl
      · exact ⟨gh_l_said.mono (by decide), m13⟩) }
  have ld17 : LamD (tbK K) mg base "_law_known_right" fd17 := by
    have hd : disB (tfL.map (·.1)) K = true := c.ex 22 (f := disB (tfL.map (·.1))) rfl
    have hp : ((("_law_known_right" : Str), (none : Option Str)), ("_law_known_right" : Str)) ∈ tfL := by unfold tfL; simp
    exact lamD_of (T := tbK K) (p := ("_law_known_right", none)) F17 (TBs _ (List.mem_map.mpr ⟨_, hp, rfl⟩)) (List.mem_map.mpr ⟨_, hp, rfl⟩) (lamL_one hp hd (by unfold tfL; decide +kernel))
  have g17 : Good P w (tbK K) mg base 22 1018 (gm.fn 1018) := goodL_mk F17 sc_l_known_right og17 rfl rfl ck_l_known_right ((b_67_known (gam_at rfl) (gam_hf rfl)).d m_67_known) ld17 fun _ _ _ _ _ _ us hl => match us, hl with | [], _ => rfl
  exact g17
theorem facts (X : K.In h) (G : h.Ns mainGlobals mg) (cc : SaysL faL fnL exL (tfL.map (·.1)) h K) {f : Addr} (hfa : mg "law" = some (.ref f)) : ∃ fd : FuncData, (∀ (s : Shared) (u : Value), BindsTo s fd ⟨[u], []⟩ [("_law_script", u)]) ∧ ∀ base : Heap, (∀ p ∈ tfL.map (·.1), LamX.TabB base mg (He.cT K p).1 (He.cT K p).2) → FnOk P w K mg base (L2.CX P w) 25 f fd ["_law_script"] (prom (tbK K) sp_law) := by
  have c : SaysF faL fnL exL K := cc.f
  have fr : ∀ x ∈ stdNames, mg x = none := by
    intro x hx
    have key : He.Fa.free x ∈ faL := by
      unfold stdNames at hx
      unfold faL
      simp only [List.mem_cons, List.not_mem_nil, or_false] at hx
      rcases hx with rfl | rfl | rfl | rfl | rfl | rfl | rfl | rfl | rfl | rfl | rfl | rfl | rfl | rfl | rfl | rfl | rfl | rfl | rfl | rfl <;> simp
    obtain ⟨i, hi, e⟩ := List.mem_iff_getElem.mp key
    exact He.free_ok X G (c.d.fact i (f := .free x) (by rw [List.getElem?_eq_getElem hi, e]))
  have m0 : mg "reduced" = some (.ref ((tbK K).fA 129)) := He.glo_ok X G (c.d.fact 0 (f := .glo "reduced") rfl)
  have m1 : mg "figures_end" = some (.ref ((tbK K).fA 127)) := He.glo_ok X G (c.d.fact 1 (f := .glo "figures_end") rfl)
  have m2 : mg "last_part" = some (.ref ((tbK K).fA 128)) := He.glo_ok X G (c.d.fact 2 (f := .glo "last_part") rfl)
  have m3 : mg "read_decimal" = some (.ref ((tbK K).fA 131)) := He.glo_ok X G (c.d.fact 3 (f := .glo "read_decimal") rfl)
  have m4 : mg "_law_cell_at" = some (.ref ((tbK K).fA 1903)) := He.glo_ok X G (c.d.fact 4 (f := .glo "_law_cell_at") rfl)
  have m5 : mg "_law_source_of" = some (.ref ((tbK K).fA 1901)) := He.glo_ok X G (c.d.fact 5 (f := .glo "_law_source_of") rfl)
  have m6 : mg "_law_next" = some (.ref ((tbK K).fA 1900)) := He.glo_ok X G (c.d.fact 6 (f := .glo "_law_next") rfl)
  have m7 : mg "_law_one" = some (.ref ((tbK K).fA 1902)) := He.glo_ok X G (c.d.fact 7 (f := .glo "_law_one") rfl)
  have m8 : mg "_law_wide" = some (.ref ((tbK K).fA 1908)) := He.glo_ok X G (c.d.fact 8 (f := .glo "_law_wide") rfl)
  have m9 : mg "_law_tens" = some (.ref ((tbK K).fA 1010)) := He.glo_ok X G (c.d.fact 9 (f := .glo "_law_tens") rfl)
  have m10 : mg "_law_reduced" = some (.ref ((tbK K).fA 1012)) := He.glo_ok X G (c.d.fact 10 (f := .glo "_law_reduced") rfl)
  have m11 : mg "_law_figures" = some (.ref ((tbK K).fA 1011)) := He.glo_ok X G (c.d.fact 11 (f := .glo "_law_figures") rfl)
  have m12 : mg "_law_text" = some (.ref ((tbK K).fA 1015)) := He.glo_ok X G (c.d.fact 12 (f := .glo "_law_text") rfl)
  have m13 : mg "_law_said" = some (.ref ((tbK K).fA 1014)) := He.glo_ok X G (c.d.fact 13 (f := .glo "_law_said") rfl)
  have m14 : mg "_law_go" = some (.ref ((tbK K).fA 1013)) := He.glo_ok X G (c.d.fact 14 (f := .glo "_law_go") rfl)
  have m15 : mg "_law_wrong" = some (.ref ((tbK K).fA 1017)) := He.glo_ok X G (c.d.fact 15 (f := .glo "_law_wrong") rfl)
  have m16 : mg "_law_bent" = some (.ref ((tbK K).fA 1016)) := He.glo_ok X G (c.d.fact 16 (f := .glo "_law_bent") rfl)
  have m17 : mg "_law_known_right" = some (.ref ((tbK K).fA 1018)) := He.glo_ok X G (c.d.fact 17 (f := .glo "_law_known_right") rfl)
  have m18 : mg "law" = some (.ref ((tbK K).fA 1019)) := He.glo_ok X G (c.d.fact 18 (f := .glo "law") rfl)
  have mc_InvalidFormat : mg "InvalidFormat" = some (.ref ((tbK K).cA 1)) := He.glo_ok X G (c.d.fact 41 (f := .glo "InvalidFormat") rfl)
  have mc_InvalidBound : mg "InvalidBound" = some (.ref ((tbK K).cA 0)) := He.glo_ok X G (c.d.fact 40 (f := .glo "InvalidBound") rfl)
  have mc_InvalidText : mg "InvalidText" = some (.ref ((tbK K).cA 8)) := He.glo_ok X G (c.d.fact 42 (f := .glo "InvalidText") rfl)
  have mc_InvalidCall : mg "InvalidCall" = some (.ref ((tbK K).cA 7)) := He.glo_ok X G (c.d.fact 43 (f := .glo "InvalidCall") rfl)
  have mc_Overflow : mg "Overflow" = some (.ref ((tbK K).cA 4)) := He.glo_ok X G (c.d.fact 39 (f := .glo "Overflow") rfl)
  have mc_LimitExceeded : mg "LimitExceeded" = some (.ref ((tbK K).cA 6)) := He.glo_ok X G (c.d.fact 44 (f := .glo "LimitExceeded") rfl)
  obtain ⟨fd18, F18⟩ := c.d.def_ 18 (d := d_law) rfl
  have F18 : FunD (tbK K).K "law" "law" (defArgs (tp 31)) (defBody (tp 31)) (defScope (tp 31)) [] [] ((tbK K).fA 1019) fd18 := F18
  have ef := hfa.symm.trans m18
  cases ef
  refine ⟨fd18, fun s u => FunD.bindsA (ps := ["_law_script"]) F18 (fun _ _ _ _ _ _ us hl => match us, hl with | [_], _ => rfl) s [u] rfl, fun base TBs => ?_⟩
  obtain ⟨fx0, FX0⟩ := c.d.def_ 19 (d := dx_InvalidFormat) rfl
  have gx_InvalidFormat : GoodX P w (tbK K) mg base 1 1 := by
    have k : exF "FloatsError" "InvalidFormat" "part" K = true := c.ex 9 (f := exF "FloatsError" "InvalidFormat" "part") rfl
    unfold exF at k
    obtain ⟨k1, k⟩ := bk k
    obtain ⟨k2, k⟩ := bk k
    obtain ⟨k3, k⟩ := bk k
    obtain ⟨k4, k5⟩ := bk k
    exact goodX_mk (T := tbK K) (c := 1) (b := "FloatsError") (f := "part") (sf := "self") (ar := "part") (B := He.ga K "FloatsError") (fI := He.ma K (He.ga K "InvalidFormat") "__init__") FX0 (FnScope.by (by decide +kernel)) (by decide +kernel) (by decide +kernel) (by decide +kernel) (by decide +kernel) (by decide +kernel) (oexB_ok k1) (of_decide_eq_true k2) rfl (baF_ok (c.ex 8 (f := baF "FloatsError") rfl)) (He.glo_ok X G (c.d.fact 49 (f := .glo "FloatsError") rfl)) (of_decide_eq_true k3) (of_decide_eq_true k4) (fun _ _ _ _ _ _ us hl => match us, hl with | [_, _], _ => rfl)
  obtain ⟨fx1, FX1⟩ := c.d.def_ 20 (d := dx_InvalidBound) rfl
  have gx_InvalidBound : GoodX P w (tbK K) mg base 1 0 := by
    have k : exF "FloatsError" "InvalidBound" "argument" K = true := c.ex 10 (f := exF "FloatsError" "InvalidBound" "argument") rfl
    unfold exF at k
    obtain ⟨k1, k⟩ := bk k
    obtain ⟨k2, k⟩ := bk k
    obtain ⟨k3, k⟩ := bk k
    obtain ⟨k4, k5⟩ := bk k
    exact goodX_mk (T := tbK K) (c := 0) (b := "FloatsError") (f := "argument") (sf := "self") (ar := "argument") (B := He.ga K "FloatsError") (fI := He.ma K (He.ga K "InvalidBound") "__init__") FX1 (FnScope.by (by decide +kernel)) (by decide +kernel) (by decide +kernel) (by decide +kernel) (by decide +kernel) (by decide +kernel) (oexB_ok k1) (of_decide_eq_true k2) rfl (baF_ok (c.ex 8 (f := baF "FloatsError") rfl)) (He.glo_ok X G (c.d.fact 49 (f := .glo "FloatsError") rfl)) (of_decide_eq_true k3) (of_decide_eq_true k4) (fun _ _ _ _ _ _ us hl => match us, hl with | [_, _], _ => rfl)
  obtain ⟨fx2, FX2⟩ := c.d.def_ 21 (d := dx_InvalidText) rfl
  have gx_InvalidText : GoodX P w (tbK K) mg base 1 8 := by
    have k : exF "FloatsError" "InvalidText" "sign" K = true := c.ex 11 (f := exF "FloatsError" "InvalidText" "sign") rfl
    unfold exF at k
    obtain ⟨k1, k⟩ := bk k
    obtain ⟨k2, k⟩ := bk k
    obtain ⟨k3, k⟩ := bk k
    obtain ⟨k4, k5⟩ := bk k
    exact goodX_mk (T := tbK K) (c := 8) (b := "FloatsError") (f := "sign") (sf := "self") (ar := "sign") (B := He.ga K "FloatsError") (fI := He.ma K (He.ga K "InvalidText") "__init__") FX2 (FnScope.by (by decide +kernel)) (by decide +kernel) (by decide +kernel) (by decide +kernel) (by decide +kernel) (by decide +kernel) (oexB_ok k1) (of_decide_eq_true k2) rfl (baF_ok (c.ex 8 (f := baF "FloatsError") rfl)) (He.glo_ok X G (c.d.fact 49 (f := .glo "FloatsError") rfl)) (of_decide_eq_true k3) (of_decide_eq_true k4) (fun _ _ _ _ _ _ us hl => match us, hl with | [_, _], _ => rfl)
  obtain ⟨fx3, FX3⟩ := c.d.def_ 22 (d := dx_InvalidCall) rfl
  have gx_InvalidCall : GoodX P w (tbK K) mg base 1 7 := by
    have k : exF "FloatsError" "InvalidCall" "call" K = true := c.ex 12 (f := exF "FloatsError" "InvalidCall" "call") rfl
    unfold exF at k
    obtain ⟨k1, k⟩ := bk k
    obtain ⟨k2, k⟩ := bk k
    obtain ⟨k3, k⟩ := bk k
    obtain ⟨k4, k5⟩ := bk k
    exact goodX_mk (T := tbK K) (c := 7) (b := "FloatsError") (f := "call") (sf := "self") (ar := "call") (B := He.ga K "FloatsError") (fI := He.ma K (He.ga K "InvalidCall") "__init__") FX3 (FnScope.by (by decide +kernel)) (by decide +kernel) (by decide +kernel) (by decide +kernel) (by decide +kernel) (by decide +kernel) (oexB_ok k1) (of_decide_eq_true k2) rfl (baF_ok (c.ex 8 (f := baF "FloatsError") rfl)) (He.glo_ok X G (c.d.fact 49 (f := .glo "FloatsError") rfl)) (of_decide_eq_true k3) (of_decide_eq_true k4) (fun _ _ _ _ _ _ us hl => match us, hl with | [_, _], _ => rfl)
  obtain ⟨fx4, FX4⟩ := c.d.def_ 23 (d := dx_Overflow) rfl
  have gx_Overflow : GoodX P w (tbK K) mg base 1 4 := by
    have k : exF "FloatsError" "Overflow" "sign" K = true := c.ex 13 (f := exF "FloatsError" "Overflow" "sign") rfl
    unfold exF at k
    obtain ⟨k1, k⟩ := bk k
    obtain ⟨k2, k⟩ := bk k
    obtain ⟨k3, k⟩ := bk k
    obtain ⟨k4, k5⟩ := bk k
    exact goodX_mk (T := tbK K) (c := 4) (b := "FloatsError") (f := "sign") (sf := "self") (ar := "sign") (B := He.ga K "FloatsError") (fI := He.ma K (He.ga K "Overflow") "__init__") FX4 (FnScope.by (by decide +kernel)) (by decide +kernel) (by decide +kernel) (by decide +kernel) (by decide +kernel) (by decide +kernel) (oexB_ok k1) (of_decide_eq_true k2) rfl (baF_ok (c.ex 8 (f := baF "FloatsError") rfl)) (He.glo_ok X G (c.d.fact 49 (f := .glo "FloatsError") rfl)) (of_decide_eq_true k3) (of_decide_eq_true k4) (fun _ _ _ _ _ _ us hl => match us, hl with | [_, _], _ => rfl)
  obtain ⟨fx5, FX5⟩ := c.d.def_ 24 (d := dx_LimitExceeded) rfl
  have gx_LimitExceeded : GoodX P w (tbK K) mg base 1 6 := by
    have k : exF "FloatsError" "LimitExceeded" "limit" K = true := c.ex 14 (f := exF "FloatsError" "LimitExceeded" "limit") rfl
    unfold exF at k
    obtain ⟨k1, k⟩ := bk k
    obtain ⟨k2, k⟩ := bk k
    obtain ⟨k3, k⟩ := bk k
    obtain ⟨k4, k5⟩ := bk k
    exact goodX_mk (T := tbK K) (c := 6) (b := "FloatsError") (f := "limit") (sf := "self") (ar := "limit") (B := He.ga K "FloatsError") (fI := He.ma K (He.ga K "LimitExceeded") "__init__") FX5 (FnScope.by (by decide +kernel)) (by decide +kernel) (by decide +kernel) (by decide +kernel) (by decide +kernel) (by decide +kernel) (oexB_ok k1) (of_decide_eq_true k2) rfl (baF_ok (c.ex 8 (f := baF "FloatsError") rfl)) (He.glo_ok X G (c.d.fact 49 (f := .glo "FloatsError") rfl)) (of_decide_eq_true k3) (of_decide_eq_true k4) (fun _ _ _ _ _ _ us hl => match us, hl with | [_, _], _ => rfl)
  have xx_InvalidFormat : (tbK K).xf 1 = "part" ∧ XfC (tbK K).K ((tbK K).cA 1) ∧ PySem.W.findIn (tbK K).K (.ref ((tbK K).cA 1)) "part" = some none := by
    have k : exF "FloatsError" "InvalidFormat" "part" K = true := c.ex 9 (f := exF "FloatsError" "InvalidFormat" "part") rfl
    unfold exF at k
    obtain ⟨k1, k⟩ := bk k
    obtain ⟨k2, k⟩ := bk k
    obtain ⟨k3, k⟩ := bk k
    obtain ⟨k4, k5⟩ := bk k
    exact ⟨rfl, xfB_ok k5, of_decide_eq_true k2⟩
  have xx_InvalidBound : (tbK K).xf 0 = "argument" ∧ XfC (tbK K).K ((tbK K).cA 0) ∧ PySem.W.findIn (tbK K).K (.ref ((tbK K).cA 0)) "argument" = some none := by
    have k : exF "FloatsError" "InvalidBound" "argument" K = true := c.ex 10 (f := exF "FloatsError" "InvalidBound" "argument") rfl
    unfold exF at k
    obtain ⟨k1, k⟩ := bk k
    obtain ⟨k2, k⟩ := bk k
    obtain ⟨k3, k⟩ := bk k
    obtain ⟨k4, k5⟩ := bk k
    exact ⟨rfl, xfB_ok k5, of_decide_eq_true k2⟩
  have xx_InvalidText : (tbK K).xf 8 = "sign" ∧ XfC (tbK K).K ((tbK K).cA 8) ∧ PySem.W.findIn (tbK K).K (.ref ((tbK K).cA 8)) "sign" = some none := by
    have k : exF "FloatsError" "InvalidText" "sign" K = true := c.ex 11 (f := exF "FloatsError" "InvalidText" "sign") rfl
    unfold exF at k
    obtain ⟨k1, k⟩ := bk k
    obtain ⟨k2, k⟩ := bk k
    obtain ⟨k3, k⟩ := bk k
    obtain ⟨k4, k5⟩ := bk k
    exact ⟨rfl, xfB_ok k5, of_decide_eq_true k2⟩
  have xx_InvalidCall : (tbK K).xf 7 = "call" ∧ XfC (tbK K).K ((tbK K).cA 7) ∧ PySem.W.findIn (tbK K).K (.ref ((tbK K).cA 7)) "call" = some none := by
    have k : exF "FloatsError" "InvalidCall" "call" K = true := c.ex 12 (f := exF "FloatsError" "InvalidCall" "call") rfl
    unfold exF at k
    obtain ⟨k1, k⟩ := bk k
    obtain ⟨k2, k⟩ := bk k
    obtain ⟨k3, k⟩ := bk k
    obtain ⟨k4, k5⟩ := bk k
    exact ⟨rfl, xfB_ok k5, of_decide_eq_true k2⟩
  have xx_Overflow : (tbK K).xf 4 = "sign" ∧ XfC (tbK K).K ((tbK K).cA 4) ∧ PySem.W.findIn (tbK K).K (.ref ((tbK K).cA 4)) "sign" = some none := by
    have k : exF "FloatsError" "Overflow" "sign" K = true := c.ex 13 (f := exF "FloatsError" "Overflow" "sign") rfl
    unfold exF at k
    obtain ⟨k1, k⟩ := bk k
    obtain ⟨k2, k⟩ := bk k
    obtain ⟨k3, k⟩ := bk k
    obtain ⟨k4, k5⟩ := bk k
    exact ⟨rfl, xfB_ok k5, of_decide_eq_true k2⟩
  have xx_LimitExceeded : (tbK K).xf 6 = "limit" ∧ XfC (tbK K).K ((tbK K).cA 6) ∧ PySem.W.findIn (tbK K).K (.ref ((tbK K).cA 6)) "limit" = some none := by
    have k : exF "FloatsError" "LimitExceeded" "limit" K = true := c.ex 14 (f := exF "FloatsError" "LimitExceeded" "limit") rfl
    unfold exF at k
    obtain ⟨k1, k⟩ := bk k
    obtain ⟨k2, k⟩ := bk k
    obtain ⟨k3, k⟩ := bk k
    obtain ⟨k4, k5⟩ := bk k
    exact ⟨rfl, xfB_ok k5, of_decide_eq_true k2⟩
  have sb : ∀ c1 c2 b, gm.sub c1 c2 = some b → PySem.W.exmOne K (.ref ((tbK K).cA c1)) (.ref ((tbK K).cA c2)) = some b := by
    intro c1 c2 b e
    have hq := mem_lk2 (show subL.lookup (c1, c2) = some b from e)
    unfold subL at hq
    simp only [List.mem_cons, List.not_mem_nil, or_false, Prod.mk.injEq] at hq
    rcases hq with ⟨⟨rfl, rfl⟩, rfl⟩ | ⟨⟨rfl, rfl⟩, rfl⟩ | ⟨⟨rfl, rfl⟩, rfl⟩ | ⟨⟨rfl, rfl⟩, rfl⟩ | ⟨⟨rfl, rfl⟩, rfl⟩ | ⟨⟨rfl, rfl⟩, rfl⟩ | ⟨⟨rfl, rfl⟩, rfl⟩
    · exact of_decide_eq_true (c.ex 15 (f := subF "InvalidText" "FloatsError" true) rfl)
    · exact of_decide_eq_true (c.ex 16 (f := subF "InvalidText" "Overflow" false) rfl)
    · exact of_decide_eq_true (c.ex 17 (f := subF "InvalidText" "InvalidBound" false) rfl)
    · exact of_decide_eq_true (c.ex 18 (f := subF "InvalidText" "InvalidFormat" false) rfl)
    · exact of_decide_eq_true (c.ex 19 (f := subF "InvalidText" "InvalidText" true) rfl)
    · exact of_decide_eq_true (c.ex 20 (f := subF "InvalidText" "InvalidCall" false) rfl)
    · exact of_decide_eq_true (c.ex 21 (f := subF "InvalidText" "LimitExceeded" false) rfl)
  have kq_Overflow : mg "Overflow" = some (.ref ((tbK K).cA 4)) ∧ ∀ c1 b, gm.sub c1 4 = some b → ExcE (tbK K).K ((tbK K).cA c1) ∧ PySem.W.kitOne (tbK K).K (.ref ((tbK K).cA c1)) (.ref ((tbK K).cA 4)) = some b := by
    refine ⟨mc_Overflow, fun c1 b e => ?_⟩
    have hq := mem_lk2 (show subL.lookup (c1, 4) = some b from e)
    unfold subL at hq
    simp only [List.mem_cons, List.not_mem_nil, or_false, Prod.mk.injEq] at hq
    rcases hq with ⟨⟨rfl, hq⟩, rfl⟩ | ⟨⟨rfl, hq⟩, rfl⟩ | ⟨⟨rfl, hq⟩, rfl⟩ | ⟨⟨rfl, hq⟩, rfl⟩ | ⟨⟨rfl, hq⟩, rfl⟩ | ⟨⟨rfl, hq⟩, rfl⟩ | ⟨⟨rfl, hq⟩, rfl⟩
    · exact absurd hq (by decide)
    · exact ⟨excEB_ok (show excEB K (He.ga K "InvalidText") = true from c.ex 0 (f := excF "InvalidText") rfl), of_decide_eq_true (c.ex 1 (f := kitF "InvalidText" "Overflow" false) rfl)⟩
    · exact absurd hq (by decide)
    · exact absurd hq (by decide)
    · exact absurd hq (by decide)
    · exact absurd hq (by decide)
    · exact absurd hq (by decide)
  have kq_InvalidBound : mg "InvalidBound" = some (.ref ((tbK K).cA 0)) ∧ ∀ c1 b, gm.sub c1 0 = some b → ExcE (tbK K).K ((tbK K).cA c1) ∧ PySem.W.kitOne (tbK K).K (.ref ((tbK K).cA c1)) (.ref ((tbK K).cA 0)) = some b := by
    refine ⟨mc_InvalidBound, fun c1 b e => ?_⟩
    have hq := mem_lk2 (show subL.lookup (c1, 0) = some b from e)
    unfold subL at hq
    simp only [List.mem_cons, List.not_mem_nil, or_false, Prod.mk.injEq] at hq
    rcases hq with ⟨⟨rfl, hq⟩, rfl⟩ | ⟨⟨rfl, hq⟩, rfl⟩ | ⟨⟨rfl, hq⟩, rfl⟩ | ⟨⟨rfl, hq⟩, rfl⟩ | ⟨⟨rfl, hq⟩, rfl⟩ | ⟨⟨rfl, hq⟩, rfl⟩ | ⟨⟨rfl, hq⟩, rfl⟩
    · exact absurd hq (by decide)
    · exact absurd hq (by decide)
    · exact ⟨excEB_ok (show excEB K (He.ga K "InvalidText") = true from c.ex 0 (f := excF "InvalidText") rfl), of_decide_eq_true (c.ex 2 (f := kitF "InvalidText" "InvalidBound" false) rfl)⟩
    · exact absurd hq (by decide)
    · exact absurd hq (by decide)
    · exact absurd hq (by decide)
    · exact absurd hq (by decide)
  have kq_InvalidFormat : mg "InvalidFormat" = some (.ref ((tbK K).cA 1)) ∧ ∀ c1 b, gm.sub c1 1 = some b → ExcE (tbK K).K ((tbK K).cA c1) ∧ PySem.W.kitOne (tbK K).K (.ref ((tbK K).cA c1)) (.ref ((tbK K).cA 1)) = some b := by
    refine ⟨mc_InvalidFormat, fun c1 b e => ?_⟩
    have hq := mem_lk2 (show subL.lookup (c1, 1) = some b from e)
    unfold subL at hq
    simp only [List.mem_cons, List.not_mem_nil, or_false, Prod.mk.injEq] at hq
    rcases hq with ⟨⟨rfl, hq⟩, rfl⟩ | ⟨⟨rfl, hq⟩, rfl⟩ | ⟨⟨rfl, hq⟩, rfl⟩ | ⟨⟨rfl, hq⟩, rfl⟩ | ⟨⟨rfl, hq⟩, rfl⟩ | ⟨⟨rfl, hq⟩, rfl⟩ | ⟨⟨rfl, hq⟩, rfl⟩
    · exact absurd hq (by decide)
    · exact absurd hq (by decide)
    · exact absurd hq (by decide)
    · exact ⟨excEB_ok (show excEB K (He.ga K "InvalidText") = true from c.ex 0 (f := excF "InvalidText") rfl), of_decide_eq_true (c.ex 3 (f := kitF "InvalidText" "InvalidFormat" false) rfl)⟩
    · exact absurd hq (by decide)
    · exact absurd hq (by decide)
    · exact absurd hq (by decide)
  have kq_InvalidText : mg "InvalidText" = some (.ref ((tbK K).cA 8)) ∧ ∀ c1 b, gm.sub c1 8 = some b → ExcE (tbK K).K ((tbK K).cA c1) ∧ PySem.W.kitOne (tbK K).K (.ref ((tbK K).cA c1)) (.ref ((tbK K).cA 8)) = some b := by
    refine ⟨mc_InvalidText, fun c1 b e => ?_⟩
    have hq := mem_lk2 (show subL.lookup (c1, 8) = some b from e)
    unfold subL at hq
    simp only [List.mem_cons, List.not_mem_nil, or_false, Prod.mk.injEq] at hq
    rcases hq with ⟨⟨rfl, hq⟩, rfl⟩ | ⟨⟨rfl, hq⟩, rfl⟩ | ⟨⟨rfl, hq⟩, rfl⟩ | ⟨⟨rfl, hq⟩, rfl⟩ | ⟨⟨rfl, hq⟩, rfl⟩ | ⟨⟨rfl, hq⟩, rfl⟩ | ⟨⟨rfl, hq⟩, rfl⟩
    · exact absurd hq (by decide)
    · exact absurd hq (by decide)
    · exact absurd hq (by decide)
    · exact absurd hq (by decide)
    · exact ⟨excEB_ok (show excEB K (He.ga K "InvalidText") = true from c.ex 0 (f := excF "InvalidText") rfl), of_decide_eq_true (c.ex 4 (f := kitF "InvalidText" "InvalidText" true) rfl)⟩
    · exact absurd hq (by decide)
    · exact absurd hq (by decide)
  have kq_InvalidCall : mg "InvalidCall" = some (.ref ((tbK K).cA 7)) ∧ ∀ c1 b, gm.sub c1 7 = some b → ExcE (tbK K).K ((tbK K).cA c1) ∧ PySem.W.kitOne (tbK K).K (.ref ((tbK K).cA c1)) (.ref ((tbK K).cA 7)) = some b := by
    refine ⟨mc_InvalidCall, fun c1 b e => ?_⟩
    have hq := mem_lk2 (show subL.lookup (c1, 7) = some b from e)
    unfold subL at hq
    simp only [List.mem_cons, List.not_mem_nil, or_false, Prod.mk.injEq] at hq
    rcases hq with ⟨⟨rfl, hq⟩, rfl⟩ | ⟨⟨rfl, hq⟩, rfl⟩ | ⟨⟨rfl, hq⟩, rfl⟩ | ⟨⟨rfl, hq⟩, rfl⟩ | ⟨⟨rfl, hq⟩, rfl⟩ | ⟨⟨rfl, hq⟩, rfl⟩ | ⟨⟨rfl, hq⟩, rfl⟩
    · exact absurd hq (by decide)
    · exact absurd hq (by decide)
    · exact absurd hq (by decide)
    · exact absurd hq (by decide)
    · exact absurd hq (by decide)
    · exact ⟨excEB_ok (show excEB K (He.ga K "InvalidText") = true from c.ex 0 (f := excF "InvalidText") rfl), of_decide_eq_true (c.ex 5 (f := kitF "InvalidText" "InvalidCall" false) rfl)⟩
    · exact absurd hq (by decide)
  have kq_LimitExceeded : mg "LimitExceeded" = some (.ref ((tbK K).cA 6)) ∧ ∀ c1 b, gm.sub c1 6 = some b → ExcE (tbK K).K ((tbK K).cA c1) ∧ PySem.W.kitOne (tbK K).K (.ref ((tbK K).cA c1)) (.ref ((tbK K).cA 6)) = some b := by
    refine ⟨mc_LimitExceeded, fun c1 b e => ?_⟩
    have hq := mem_lk2 (show subL.lookup (c1, 6) = some b from e)
    unfold subL at hq
    simp only [List.mem_cons, List.not_mem_nil, or_false, Prod.mk.injEq] at hq
    rcases hq with ⟨⟨rfl, hq⟩, rfl⟩ | ⟨⟨rfl, hq⟩, rfl⟩ | ⟨⟨rfl, hq⟩, rfl⟩ | ⟨⟨rfl, hq⟩, rfl⟩ | ⟨⟨rfl, hq⟩, rfl⟩ | ⟨⟨rfl, hq⟩, rfl⟩ | ⟨⟨rfl, hq⟩, rfl⟩
    · exact absurd hq (by decide)
    · exact absurd hq (by decide)
    · exact absurd hq (by decide)
    · exact absurd hq (by decide)
    · exact absurd hq (by decide)
    · exact absurd hq (by decide)
    · exact ⟨excEB_ok (show excEB K (He.ga K "InvalidText") = true from c.ex 0 (f := excF "InvalidText") rfl), of_decide_eq_true (c.ex 6 (f := kitF "InvalidText" "LimitExceeded" false) rfl)⟩
  have kq_A : mg "ArithmeticError" = none ∧ ∀ c1 c2 b, gm.sub c1 c2 = some b → ExcE (tbK K).K ((tbK K).cA c1) ∧ PySem.W.kitOne (tbK K).K (.ref ((tbK K).cA c1)) (.type "ArithmeticError") = some true := by
    refine ⟨He.free_ok X G (c.d.fact 45 (f := .free "ArithmeticError") rfl), fun c1 c2 b e => ?_⟩
    have hq := mem_lk2 (show subL.lookup (c1, c2) = some b from e)
    unfold subL at hq
    simp only [List.mem_cons, List.not_mem_nil, or_false, Prod.mk.injEq] at hq
    rcases hq with ⟨⟨rfl, hq⟩, rfl⟩ | ⟨⟨rfl, hq⟩, rfl⟩ | ⟨⟨rfl, hq⟩, rfl⟩ | ⟨⟨rfl, hq⟩, rfl⟩ | ⟨⟨rfl, hq⟩, rfl⟩ | ⟨⟨rfl, hq⟩, rfl⟩ | ⟨⟨rfl, hq⟩, rfl⟩
    · exact ⟨excEB_ok (show excEB K (He.ga K "InvalidText") = true from c.ex 0 (f := excF "InvalidText") rfl), of_decide_eq_true (c.ex 7 (f := kitA "InvalidText") rfl)⟩
    · exact ⟨excEB_ok (show excEB K (He.ga K "InvalidText") = true from c.ex 0 (f := excF "InvalidText") rfl), of_decide_eq_true (c.ex 7 (f := kitA "InvalidText") rfl)⟩
    · exact ⟨excEB_ok (show excEB K (He.ga K "InvalidText") = true from c.ex 0 (f := excF "InvalidText") rfl), of_decide_eq_true (c.ex 7 (f := kitA "InvalidText") rfl)⟩
    · exact ⟨excEB_ok (show excEB K (He.ga K "InvalidText") = true from c.ex 0 (f := excF "InvalidText") rfl), of_decide_eq_true (c.ex 7 (f := kitA "InvalidText") rfl)⟩
    · exact ⟨excEB_ok (show excEB K (He.ga K "InvalidText") = true from c.ex 0 (f := excF "InvalidText") rfl), of_decide_eq_true (c.ex 7 (f := kitA "InvalidText") rfl)⟩
    · exact ⟨excEB_ok (show excEB K (He.ga K "InvalidText") = true from c.ex 0 (f := excF "InvalidText") rfl), of_decide_eq_true (c.ex 7 (f := kitA "InvalidText") rfl)⟩
    · exact ⟨excEB_ok (show excEB K (He.ga K "InvalidText") = true from c.ex 0 (f := excF "InvalidText") rfl), of_decide_eq_true (c.ex 7 (f := kitA "InvalidText") rfl)⟩
  have l0 : Lv P w (tbK K) gm mg base 2 [] := Lv.nil.up.up
  have g0 : Good P w (tbK K) mg base 3 129 (gm.fn 129) := st_g0 X G cc fr sb l0
  have l1 : Lv P w (tbK K) gm mg base 3 [q_reduced] := l0.cons g0 m0
  have g1 : Good P w (tbK K) mg base 4 127 (gm.fn 127) := st_g1 X G cc fr gx_InvalidText sb l1
  have l2 : Lv P w (tbK K) gm mg base 4 [q_figures_end, q_reduced] := l1.cons g1 m1
  have g2 : Good P w (tbK K) mg base 5 128 (gm.fn 128) := st_g2 X G cc fr sb l2
  have l3 : Lv P w (tbK K) gm mg base 5 [q_last_part, q_figures_end, q_reduced] := l2.cons g2 m2
  have g3 : Good P w (tbK K) mg base 6 131 (gm.fn 131) := st_g3 X G cc fr gx_InvalidText sb l3
  have l4 : Lv P w (tbK K) gm mg base 6 [q_read_decimal, q_last_part, q_figures_end, q_reduced] := l3.cons g3 m3
  have g4 : Good P w (tbK K) mg base 7 1903 (gm.fn 1903) := st_g4 X G cc fr sb l4
  have l5 : Lv P w (tbK K) gm mg base 7 [q_l_cell_at, q_read_decimal, q_last_part, q_figures_end, q_reduced] := l4.cons g4 m4
  have g5 : Good P w (tbK K) mg base 8 1901 (gm.fn 1901) := st_g5 X G cc fr sb l5
  have l6 : Lv P w (tbK K) gm mg base 8 [q_l_source_of, q_l_cell_at, q_read_decimal, q_last_part, q_figures_end, q_reduced] := l5.cons g5 m5
  have g6 : Good P w (tbK K) mg base 9 1900 (gm.fn 1900) := st_g6 X G cc fr sb l6
  have l7 : Lv P w (tbK K) gm mg base 9 [q_l_next, q_l_source_of, q_l_cell_at, q_read_decimal, q_last_part, q_figures_end, q_reduced] := l6.cons g6 m6
  have g7 : Good P w (tbK K) mg base 10 1902 (gm.fn 1902) := st_g7 X G cc fr sb l7
  have l8 : Lv P w (tbK K) gm mg base 10 [q_l_one, q_l_next, q_l_source_of, q_l_cell_at, q_read_decimal, q_last_part, q_figures_end, q_reduced] := l7.cons g7 m7
  have g8 : Good P w (tbK K) mg base 11 1908 (gm.fn 1908) := st_g8 X G cc fr sb l8
  have l9 : Lv P w (tbK K) gm mg base 11 [q_l_wide, q_l_one, q_l_next, q_l_source_of, q_l_cell_at, q_read_decimal, q_last_part, q_figures_end, q_reduced] := l8.cons g8 m8
  have g9 : Good P w (tbK K) mg base 12 1010 (gm.fn 1010) := st_g9 X G cc fr sb l9
  have l10 : Lv P w (tbK K) gm mg base 12 [q_l_tens, q_l_wide, q_l_one, q_l_next, q_l_source_of, q_l_cell_at, q_read_decimal, q_last_part, q_figures_end, q_reduced] := l9.cons g9 m9
  have g10 : Good P w (tbK K) mg base 13 1012 (gm.fn 1012) := st_g10 X G cc fr sb l10
  have l11 : Lv P w (tbK K) gm mg base 13 [q_l_reduced, q_l_tens, q_l_wide, q_l_one, q_l_next, q_l_source_of, q_l_cell_at, q_read_decimal, q_last_part, q_figures_end, q_reduced] := l10.cons g10 m10
  have g11 : Good P w (tbK K) mg base 14 1011 (gm.fn 1011) := st_g11 X G cc fr sb l11
  have l12 : Lv P w (tbK K) gm mg base 14 [q_l_figures, q_l_reduced, q_l_tens, q_l_wide, q_l_one, q_l_next, q_l_source_of, q_l_cell_at, q_read_decimal, q_last_part, q_figures_end, q_reduced] := l11.cons g11 m11
  have g12 : Good P w (tbK K) mg base 15 1015 (gm.fn 1015) := st_g12 X G cc fr sb l12
  have l13 : Lv P w (tbK K) gm mg base 15 [q_l_text, q_l_figures, q_l_reduced, q_l_tens, q_l_wide, q_l_one, q_l_next, q_l_source_of, q_l_cell_at, q_read_decimal, q_last_part, q_figures_end, q_reduced] := l12.cons g12 m12
  have gh_l_said : GoodH P w (tbK K) mg base 15 1014 (gm.hf 1014) := st_gh_l_said X G cc fr gx_InvalidFormat gx_InvalidBound gx_InvalidText gx_InvalidCall gx_Overflow gx_LimitExceeded xx_InvalidFormat xx_InvalidBound xx_InvalidText xx_InvalidCall xx_Overflow xx_LimitExceeded sb kq_Overflow kq_InvalidBound kq_InvalidFormat kq_InvalidText kq_InvalidCall kq_LimitExceeded kq_A l13
  have l14 : Lv P w (tbK K) gm mg base 16 [q_l_text, q_l_figures, q_l_reduced, q_l_tens, q_l_wide, q_l_one, q_l_next, q_l_source_of, q_l_cell_at, q_read_decimal, q_last_part, q_figures_end, q_reduced] := l13.up
  have g14 : Good P w (tbK K) mg base 17 1013 (gm.fn 1013) := st_g14 X G cc fr sb l14
  have l15 : Lv P w (tbK K) gm mg base 17 [q_l_go, q_l_text, q_l_figures, q_l_reduced, q_l_tens, q_l_wide, q_l_one, q_l_next, q_l_source_of, q_l_cell_at, q_read_decimal, q_last_part, q_figures_end, q_reduced] := l14.cons g14 m14
  have g15 : Good P w (tbK K) mg base 18 1017 (gm.fn 1017) := st_g15 X G cc fr sb l15
  have l16 : Lv P w (tbK K) gm mg base 18 [q_l_wrong, q_l_go, q_l_text, q_l_figures, q_l_reduced, q_l_tens, q_l_wide, q_l_one, q_l_next, q_l_source_of, q_l_cell_at, q_read_decimal, q_last_part, q_figures_end, q_reduced] := l15.cons g15 m15
  have g16 : Good P w (tbK K) mg base 19 1016 (gm.fn 1016) := st_g16 X G cc fr sb l16
  have l17 : Lv P w (tbK K) gm mg base 19 [q_l_bent, q_l_wrong, q_l_go, q_l_text, q_l_figures, q_l_reduced, q_l_tens, q_l_wide, q_l_one, q_l_next, q_l_source_of, q_l_cell_at, q_read_decimal, q_last_part, q_figures_end, q_reduced] := l16.cons g16 m16
  have g17 : Good P w (tbK K) mg base 22 1018 (gm.fn 1018) := st_g17 X G cc fr sb gh_l_said l17 TBs
  have l18 : Lv P w (tbK K) gm mg base 22 [q_l_known_right, q_l_bent, q_l_wrong, q_l_go, q_l_text, q_l_figures, q_l_reduced, q_l_tens, q_l_wide, q_l_one, q_l_next, q_l_source_of, q_l_cell_at, q_read_decimal, q_last_part, q_figures_end, q_reduced] := l17.up.up.cons g17 m17
  have sl_18 : ∀ p ∈ W_law.fns, p ∈ ([q_l_known_right, q_l_bent, q_l_wrong, q_l_go, q_l_text, q_l_figures, q_l_reduced, q_l_tens, q_l_wide, q_l_one, q_l_next, q_l_source_of, q_l_cell_at, q_read_decimal, q_last_part, q_figures_end, q_reduced] : List (Nat × Str)) := by decide +kernel
  have cv_18 : W_law.cv = true → (∀ n, gm.cvs n → (∃ ds h Q R, gm.fn n ds h Q R) → Good P w (tbK K) mg base 22 n (gm.fn n)) ∧ (∀ n vs ds h Q R, ¬ gm.clo n vs ds h Q R) ∧ (∀ n, gm.cvs n → PySem.W.keepIn (tbK K).K (.ref ((tbK K).fA n)) = true) := fun z => by cases z
  have og18 : OkG W_law (tbK K) gm P w mg base 22 := {
    fr := fr,
    fns := fun p hp => l18 p (sl_18 p hp),
    fnK := (fun p hp => by cases hp),
    fnD := (fun p hp => by cases hp),
    cons := (fun p hp => by cases hp),
    tbl := rfl,
    cv := cv_18,
    mks := (fun p hp => by cases hp),
    mets := (fun p hp => by cases hp),
    flds := (fun p hp => by cases hp),
    iso := (fun p hp => by cases hp),
    rss := (fun p hp => by cases hp),
    hcl := (fun p hp => by cases hp),
    exm := sb,
    xfs := (fun p hp => by cases hp),
    hfs := (fun p hp => by
      unfold W_law at hp
      simp only [List.mem_cons, List.not_mem_nil, or_false] at hp
      rcases hp with rfl
      · exact ⟨gh_l_said.mono (by decide), m13⟩) }
  have ld18 : LamD (tbK K) mg base "law" fd18 := by
    have hd : disB (tfL.map (·.1)) K = true := c.ex 22 (f := disB (tfL.map (·.1))) rfl
    have hp : ((("law" : Str), (none : Option Str)), ("law" : Str)) ∈ tfL := by unfold tfL; simp
    exact lamD_of (T := tbK K) (p := ("law", none)) F18 (TBs _ (List.mem_map.mpr ⟨_, hp, rfl⟩)) (List.mem_map.mpr ⟨_, hp, rfl⟩) (lamL_one hp hd (by unfold tfL; decide +kernel))
  exact good_ofL F18 sc_law og18 rfl rfl ck_law ((b_law (gam_at rfl) (gam_at rfl) (gam_at rfl) (gam_at rfl) (gam_at rfl) (gam_at rfl) (gam_at rfl) (gam_at rfl) (gam_hf rfl)).d m_law) ld18
end
end FF
open PySem PySem.W PySem.Calls PyProof.Rows
theorem PySem.Challenge.cw_farfloats_k67_texts_that_are_no_decimals_holds : PySem.Challenge.rw_farfloats_k67_texts_that_are_no_decimals.Holds := by
  w_on; o_law
  refine HandSHeadRun.head_any (r := OpenLaw.row PySem.Challenge.rw_farfloats_k67_texts_that_are_no_decimals) (q := view (OpenLaw.row PySem.Challenge.rw_farfloats_k67_texts_that_are_no_decimals).prog [31]) (H := FF.hk) (ob := FF.ob) (M := 6000) (loose := [("FloatsError" : PySem.Str), ("InvalidFormat" : PySem.Str), ("InvalidBound" : PySem.Str), ("InvalidText" : PySem.Str), ("InvalidCall" : PySem.Str), ("Overflow" : PySem.Str), ("LimitExceeded" : PySem.Str), ("reduced" : PySem.Str), ("figures_end" : PySem.Str), ("last_part" : PySem.Str), ("read_decimal" : PySem.Str), ("_law_cell_at" : PySem.Str), ("_law_source_of" : PySem.Str), ("_law_next" : PySem.Str), ("_law_one" : PySem.Str), ("_law_wide" : PySem.Str), ("_law_tens" : PySem.Str), ("_law_reduced" : PySem.Str), ("_law_figures" : PySem.Str), ("_law_text" : PySem.Str), ("_law_said" : PySem.Str), ("_law_go" : PySem.Str), ("_law_wrong" : PySem.Str), ("_law_bent" : PySem.Str), ("_law_known_right" : PySem.Str), ("FIGURES" : PySem.Str), ("MOST_FIGURES" : PySem.Str), ("MOST_LAST_FIGURES" : PySem.Str)]) (d := HandSHeadRun.topDef (OpenLaw.row PySem.Challenge.rw_farfloats_k67_texts_that_are_no_decimals).prog 31) (kwd := []) FF.ob_eq
    (by kernel_rfl) (fun s => by kernel_rfl) FF.run_ (by kernel_rfl) (by kernel_rfl) (by kernel_rfl) (by rfl) (by first | assumption | decide +kernel) (by decide +kernel) ⟨rfl, rfl, rfl, rfl, rfl, by decide +kernel⟩ ?hw ?hc
  case hw => w_witness2
  case hc =>
    refine FF.law_endL (l := PySem.Challenge.rw_farfloats_k67_texts_that_are_no_decimals) (k := 25) (x := "_law_script") rfl (by kernel_rfl) ⟨rfl, by decide, by decide⟩ ?F
    intro w mg fa h Y G hmg0
    obtain ⟨K, KX, c⟩ := Y
    have hmg : mg ("law" : PySem.Str) = some (.ref fa) := by
      have e : (HandSHeadRun.topDef (OpenLaw.row PySem.Challenge.rw_farfloats_k67_texts_that_are_no_decimals).prog 31).name = ("law" : PySem.Str) := by kernel_rfl
      rw [← e]
      exact hmg0
    obtain ⟨fd, hb, hF⟩ := FF.facts (P := (PySem.Challenge.rw_farfloats_k67_texts_that_are_no_decimals).prog) (w := w) KX G c hmg
    exact ⟨FF.tbK K, fd, FF.sp_law, FF.tfL, KX, rfl, c.empty, c.out, c.hd, hb, fun ns Q R hl hq => ⟨ns, rfl, by omega, hq⟩, fun base _ _ TB => hF base TB⟩
