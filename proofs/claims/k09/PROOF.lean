import PyProof.Rows.All
import Wide.All
import OpenK.AllK
import Wide.FinOn
import HandS.ForMost
import HandS.ForExc
import HandS.Flow
import HandS.TupAny
import HandS.Zip
import HandS.Rev
import HandS.Walk
import HandS.Wide
import HandS.WideMore
import HandS.IsInst
import HandS.Defaults
import HandS.Style
import HandS.TupMul
import KE.GoesMore
import KE.GoesEnum
import HandS.SetFor
import HandS.More
import HandS.MakeKw
import HandS.MakeKwOnly
import HandS.Conv
import KE.KUnpackStar
import KE.KDictZip
import PyProof.InstEq
import PyProof.WalksMore
import PyProof.WalkInts
import PyProof.MinMaxWalk
import PyProof.SeqI3
import HandS.SortKw
import PySem.Challenge.RW_viewgrid_k09_pages_shared
open PySem PySem.W PyProof.Rows
set_option Elab.async false
set_option linter.all false
set_option maxRecDepth 100000
set_option maxHeartbeats 16000000
namespace G
open PySem PySem.Spec PyProof.Rows L2

/-! ### plain values, the plain heap -/
inductive CV where
  | non | bl (b : Bool) | int (i : Int) | str (s : Str) | tup (xs : List CV) | lst (xs : List CV) | obj (C : Addr) (ns : List Str) (xs : List CV) | ref (a : Nat)
inductive CR where
  | v (x : CV) | al (xs : List CV)
inductive CO where
  | lst (xs : List CV) | fro (xs : List CV) | ins (C : Addr) (fs : List (Str × CV))
abbrev CH := List CO
structure CExc where
  cls : Addr
  fs : List (Str × CV)
abbrev WQ := CR → CH → Prop
abbrev WX' := CExc → CH → Prop
abbrev Spec := List CV → CH → WQ → WX' → Prop
abbrev CSt := List (Option CV)

/-! ### the core language -/
/-- where a parameter's value comes from: the n-th value, the n-th keyword, a default -/
inductive Src where
  | p (i : Nat) | k (j : Nat) | d (v : CV)
def arC (l : List Src) (us zs : List CV) : List CV := l.map fun s => match s with
  | .p i => us.getD i .non
  | .k j => zs.getD j .non
  | .d v => v
inductive Ty where
  | int | bool | str | tuple | list | own (C : Addr)
  deriving DecidableEq
inductive Blt where
  | len | abs | min | max | min1 | max1 | sum | all | any | int | bool | list | tuple | maxd | divmod
  deriving DecidableEq
inductive Bm where
  | append | extend | pop | insert | count | index | remove | reverse | clear
  deriving DecidableEq
mutual
inductive CT where
  | name (i : Nat) | tup (ts : CTs)
inductive CTs where
  | nil | cons (t : CT) (r : CTs)
end
mutual
inductive CE where
  | bad
  | con (v : CV)
  | var (i : Nat)
  | thaw (e : CE) | cool (e : CE)
  | maxD (a d : CE)
  | bin (op : Operator) (a b : CE)
  | neg (a : CE) | nt (a : CB)
  | cmp (op : CmpOp) (a b : CE)
  | chn (o1 o2 : CmpOp) (a b c : CE)
  | an (a b : CE) | orr (a b : CE)
  | ife (c : CB) (a b : CE)
  | tup (as : CA) | lst (as : CA)
  | ix (a b : CE) | sl (a : CE) (lo hi : CO1) | srev (a : CE) | sl3 (a : CE) (lo hi st : CO1)
  | fld (o : CE) (f : Str) (cs : List Addr)
  | call (sp : Spec) (n : Nat) (ds : List CV) (as : CA)
  | callk (sp : Spec) (np nk : Nat) (ar : List Src) (as ks : CA)
  | mth (tb : List (Addr × Spec × Nat × List CV)) (m : Str) (o : CE) (as : CA)
  | new (C : Addr) (sp : Spec) (n : Nat) (ds : List CV) (as : CA)
  | newk (C : Addr) (sp : Spec) (np nk : Nat) (ar : List Src) (as ks : CA)
  | lrng (t : Bool) (a b : CE)
  | lnrg (a : CE)
  | lenI (tb : List (Addr × Spec × Nat × List CV)) (e : CE)
  | cmpO (ob : List Addr) (neg : Bool) (a b : CE)
  | cmpI (tb : List (Addr × Spec × Nat × List CV)) (neg : Bool) (a b : CE)
  | cmpM (ob : List Addr) (tb : List (Addr × Spec × Nat × List CV)) (neg : Bool) (a b : CE)
  | blt (b : Blt) (as : CA)
  | bm (m : Bm) (o : CE) (as : CA)
  | isi (e : CE) (t : Ty) (cs : List Addr)
  | lc (own : List Nat) (t : CT) (it : CI) (c : CB) (e : CE)
  | lc2 (own : List Nat) (t : CT) (it : CI) (c : CB) (t1 : CT) (it1 : CI) (c1 : CB) (e : CE)
inductive CB where
  | yes | val (e : CE) | nt (a : CB) | an (a b : CB) | orr (a b : CB)
inductive CO1 where
  | none | some (e : CE)
inductive CA where
  | nil | cons (e : CE) (r : CA)
inductive CI where
  | val (e : CE) | rng1 (a : CE) | rng2 (a b : CE) | rng3 (a b c : CE) | enum (e : CE) | zip (a b : CE) | rev (e : CE) | enumz (a b : CE)
end
inductive CS where
  | bad | skip | seq (a b : CS)
  | asg (i : Nat) (e : CE) | asgT (t : CT) (e : CE)
  | setIx (o i e : CE) | setFld (o : CE) (f : Str) (cs : List Addr) (e : CE)
  | aug (op : Operator) (i : Nat) (e : CE)
  | augFld (op : Operator) (o : CE) (f : Str) (cs : List Addr) (e : CE)
  | asgD (is : List Nat) (as : CA) | asgS (i j : Nat) (e : CE)
  | ret (e : CE) | ex (e : CE)
  | ife (c : CB) (a b : CS)
  | forr (t : CT) (it : CI) (b : CS)
  | whl (c : CB) (b : CS)
  | brk | cont

/-! ### slots -/
def gv : CSt → Nat → Option CV
  | [], _ => none
  | x :: _, 0 => x
  | _ :: r, n + 1 => gv r n
def sv : CSt → Nat → CV → CSt
  | [], _, _ => []
  | _ :: r, 0, v => some v :: r
  | x :: r, n + 1, v => x :: sv r n v
def uv : CSt → Nat → CSt
  | [], _ => []
  | _ :: r, 0 => none :: r
  | x :: r, n + 1 => x :: uv r n
def svs (σ : CSt) : List Nat → List CV → CSt
  | i :: r, x :: xs => svs (sv σ i x) r xs
  | _, _ => σ
def uvs (σ : CSt) : List Nat → CSt
  | [] => σ
  | i :: r => uv (uvs σ r) i

/-! ### values -/
def putC (f : Str) (v : CV) : List (Str × CV) → List (Str × CV)
  | [] => [(f, v)]
  | (g, u) :: r => if g = f then (g, v) :: r else (g, u) :: putC f v r
/-- the items of a list-like result -/
def lsOf : CR → CH → Option (List CV)
  | .al xs, _ => some xs
  | .v (.lst xs), _ => some xs
  | .v (.ref a), h => match h[a]? with
    | some (.lst xs) => some xs
    | some (.fro xs) => some xs
    | _ => none
  | _, _ => none
/-- .. a list of ours alone (not a frozen one) -/
def lsM : CR → CH → Option (List CV)
  | .al xs, _ => some xs
  | .v (.lst xs), _ => some xs
  | .v (.ref a), h => match h[a]? with
    | some (.lst xs) => some xs
    | _ => none
  | _, _ => none
def tpOf : CR → Option (List CV)
  | .v (.tup xs) => some xs
  | _ => none
/-- list or tuple -/
def sqOf (r : CR) (h : CH) : Option (List CV) := match tpOf r with
  | some xs => some xs
  | none => lsOf r h
/-- what must stay of a walked thing -/
def gdOf : CR → CH → CH → Prop
  | .v (.ref a), h => fun h' => h'[a]? = h[a]?
  | _, _ => fun _ => True
def adopt (r : CR) (h : CH) (Q : CV → CH → Prop) : Prop := match r with
  | .v x => Q x h
  | .al xs => Q (.lst xs) h
/-- truth -/
def truC : CR → CH → Option Bool
  | .v .non, _ => some false
  | .v (.bl b), _ => some b
  | .v (.int i), _ => some (i != 0)
  | .v (.str s), _ => some (!s.cps.isEmpty)
  | .v (.tup xs), _ => some (!xs.isEmpty)
  | .v (.lst xs), _ => some (!xs.isEmpty)
  | .v (.obj _ _ _), _ => none
  | .al xs, _ => some (!xs.isEmpty)
  | .v (.ref a), h => match h[a]? with
    | some (.lst xs) => some (!xs.isEmpty)
    | some (.fro xs) => some (!xs.isEmpty)
    | _ => none
mutual
/-- the data that stands there, lists within one another to depth n -/
def datV (h : CH) : Nat → CV → Option PyData
  | _, .non => some .none
  | _, .bl b => some (.bool b)
  | _, .int i => some (.int i)
  | _, .str s => some (.str s)
  | 0, _ => none
  | _, .obj _ _ _ => none
  | n + 1, .tup xs => (datVs h n xs).map .tuple
  | n + 1, .lst xs => (datVs h n xs).map .list
  | n + 1, .ref a => match h[a]? with
    | some (.lst xs) => (datVs h n xs).map .list
    | some (.fro xs) => (datVs h n xs).map .list
    | _ => none
def datVs (h : CH) : Nat → List CV → Option (List PyData)
  | _, [] => some []
  | n, x :: xs => match datV h n x, datVs h n xs with
    | some d, some ds => some (d :: ds)
    | _, _ => none
end
def datR (h : CH) : CR → Option PyData
  | .v x => datV h 8 x
  | .al xs => (datVs h 8 xs).map .list

/-! ### readings with what comes then -/
def oP {α : Type} (o : Option α) (k : α → Prop) : Prop := match o with
  | some x => k x
  | none => False
theorem oP_of {α : Type} {o : Option α} {k : α → Prop} (w : oP o k) : ∃ x, o = some x ∧ k x := by
  cases o with
  | none => exact False.elim w
  | some x => exact ⟨x, rfl, w⟩
def vr (o : Option CV) (h : CH) (Q : WQ) : Prop := match o with
  | some x => Q (.v x) h
  | none => False
def vI (o : Option CV) (k : Int → Prop) : Prop := match o with
  | some (.int i) => k i
  | _ => False
def inI (r : CR) (k : Int → Prop) : Prop := match r with
  | .v (.int i) => k i
  | _ => False
def inB (r : CR) (k : Bool → Prop) : Prop := match r with
  | .v (.bl b) => k b
  | _ => False
def inV (r : CR) (k : CV → Prop) : Prop := match r with
  | .v x => k x
  | .al _ => False
theorem inI_of {r : CR} {k : Int → Prop} (w : inI r k) : ∃ i, r = .v (.int i) ∧ k i := by
  unfold inI at w
  split at w
  · exact ⟨_, rfl, w⟩
  · exact False.elim w
theorem inB_of {r : CR} {k : Bool → Prop} (w : inB r k) : ∃ i, r = .v (.bl i) ∧ k i := by
  unfold inB at w
  split at w
  · exact ⟨_, rfl, w⟩
  · exact False.elim w
theorem inV_of {r : CR} {k : CV → Prop} (w : inV r k) : ∃ i, r = .v i ∧ k i := by
  unfold inV at w
  split at w
  · exact ⟨_, rfl, w⟩
  · exact False.elim w
theorem vI_of {o : Option CV} {k : Int → Prop} (w : vI o k) : ∃ i, o = some (.int i) ∧ k i := by
  unfold vI at w
  split at w
  · exact ⟨_, rfl, w⟩
  · exact False.elim w
theorem vr_of {o : Option CV} {h : List CO} {Q : WQ} (w : vr o h Q) : ∃ x, o = some x ∧ Q (.v x) h := by
  unfold vr at w
  split at w
  · exact ⟨_, rfl, w⟩
  · exact False.elim w
def cnd (b : Bool) (A B : Prop) : Prop := match b with
  | true => A
  | false => B
def thw (r : CR) (h : CH) (Q : WQ) : Prop := match r with
  | .al xs => Q (.v (.ref h.length)) (h ++ [.lst xs])
  | .v x => Q (.v x) h
def fldR (x : CR) (f : Str) (cs : List Addr) (h : CH) (Q : WQ) : Prop := match x with
  | .v (.obj C ns xs) => C ∈ cs ∧ oP ((ns.zip xs).lookup f) fun v => Q (.v v) h
  | .v (.ref a) => (match h[a]? with
    | some (.ins C fs) => C ∈ cs ∧ oP (fs.lookup f) fun v => Q (.v v) h
    | _ => False)
  | _ => False
def ixN' (xs : List CV) (k : Int) (N : Nat → Prop) : Prop := oP (ixN xs.length k) N
def stIx (ro ri : CR) (x : CV) (h : CH) (N : CH → Prop) : Prop := match ro, ri with
  | .v (.ref a), .v (.int k) => (match h[a]? with
    | some (.lst xs) => ixN' xs k fun j => N (h.set a (.lst (xs.set j x)))
    | _ => False)
  | _, _ => False
def stFld (ro : CR) (f : Str) (cs : List Addr) (x : CV) (h : CH) (N : CH → Prop) : Prop := match ro with
  | .v (.ref a) => (match h[a]? with
    | some (.ins C fs) => (C ∈ cs ∧ fs.length < 1000) ∧ N (h.set a (.ins C (putC f x fs)))
    | _ => False)
  | _ => False
/-- the number in a field of an object of ours -/
def agFld (ro : CR) (f : Str) (cs : List Addr) (h : CH) (k : Nat → Addr → List (Str × CV) → Int → Prop) : Prop := match ro with
  | .v (.ref a) => (match h[a]? with
    | some (.ins C fs) => C ∈ cs ∧ fs.length < 1000 ∧ vI (fs.lookup f) fun x => k a C fs x
    | _ => False)
  | _ => False
/-! ### operations by values -/
def CDv (_ j : Int) : Prop := 0 < j ∧ j < 2 ^ 120
theorem CDv.wide {i j : Int} (c : CDv i j) : CDivW i j := wide_div (b := 120) c.1 (by have := c.2; have := c.1; omega) (by decide) (by decide)
def binI (op : Operator) (i j : Int) (k : Int → Prop) : Prop := match op with
  | .Add => k (i + j)
  | .Sub => k (i - j)
  | .Mult => (CMul i j ∨ (i.natAbs < 2 ^ 1000 ∧ j.natAbs < 2 ^ 1000)) ∧ k (i * j)
  | .FloorDiv => CDv i j ∧ k (i / j)
  | .Mod => 0 < j ∧ k (i % j)
  | .Pow => CPow i j ∧ k (i ^ j.toNat)
  | _ => False
def binA (op : Operator) (i j : Int) (k : Int → Prop) : Prop := match op with
  | .Pow => False
  | op => binI op i j k
def binL (op : Operator) (x y : CR) (h : CH) (Q : WQ) : Prop := match lsM x h, lsM y h with
  | some a, some b => op = .Add ∧ a.length + b.length ≤ sizeLine ∧ Q (.al (a ++ b)) h
  | _, _ => False
def binR (op : Operator) (x y : CR) (h : CH) (Q : WQ) : Prop :=
  match x, y with
  | .v (.int i), .v (.int j) => binI op i j fun n => Q (.v (.int n)) h
  | .v (.tup a), .v (.tup b) => op = .Add ∧ a.length + b.length ≤ sizeLine ∧ Q (.v (.tup (a ++ b))) h
  | .v (.tup a), .v (.int k) => op = .Mult ∧ 0 < a.length ∧ a.length ≤ 1000 ∧ -1000 ≤ k ∧ k ≤ 1000 ∧ Q (.v (.tup (List.replicate k.toNat a).flatten)) h
  | .v (.lst a), .v (.int k) => op = .Mult ∧ -(2 ^ 63) ≤ k ∧ k < 2 ^ 63 ∧ a.length * k.toNat ≤ sizeLine ∧ Q (.al (List.replicate k.toNat a).flatten) h
  | .al a, .v (.int k) => op = .Mult ∧ -(2 ^ 63) ≤ k ∧ k < 2 ^ 63 ∧ a.length * k.toNat ≤ sizeLine ∧ Q (.al (List.replicate k.toNat a).flatten) h
  | .v (.ref l), .v (.int k) => (match lsM (.v (.ref l)) h with
    | some a => op = .Mult ∧ -(2 ^ 63) ≤ k ∧ k < 2 ^ 63 ∧ a.length * k.toNat ≤ sizeLine ∧ Q (.al (List.replicate k.toNat a).flatten) h
    | none => False)
  | .al a, y => binL op (.al a) y h Q
  | .v (.ref a), y => binL op (.v (.ref a)) y h Q
  | .v (.lst a), y => binL op (.v (.lst a)) y h Q
  | _, _ => False
/-- is -/
def isR (x y : CR) (h : CH) : Option Bool := match x, y with
  | .v .non, .v .non => some true
  | _, .v .non => some false
  | .v (.bl a), .v (.bl b) => some (decide (a = b))
  | .v (.ref a), .v (.ref b) => (match h[a]?, h[b]? with
    | some (.ins _ _), some (.ins _ _) => some (decide (a = b))
    | _, _ => none)
  | _, _ => none
def eqR (x y : CR) (h : CH) (k : Bool → Prop) : Prop := match datR h x, datR h y with
  | some d, some e => (SeqAt.shaped d = true ∧ SeqAt.shaped e = true) ∧ k (PyData.eqv d e)
  | _, _ => False
def inR (x y : CR) (h : CH) (k : Bool → Prop) : Prop := match datR h x, (sqOf y h).bind (datVs h 8) with
  | some d, some es => (SeqAt.shaped d = true ∧ SeqAt.shaped (.list es) = true) ∧ k (es.any fun z => PyData.eqv z d)
  | _, _ => False
def ordR (p : Int → Int → Bool) (x y : CR) (k : Bool → Prop) : Prop := match x, y with
  | .v (.int i), .v (.int j) => k (p i j)
  | _, _ => False
def cmpR (op : CmpOp) (x y : CR) (h : CH) (Q : WQ) : Prop :=
  match op with
  | .Eq => eqR x y h fun b => Q (.v (.bl b)) h
  | .NotEq => eqR x y h fun b => Q (.v (.bl (!b))) h
  | .Is => oP (isR x y h) fun b => Q (.v (.bl b)) h
  | .IsNot => oP (isR x y h) fun b => Q (.v (.bl (!b))) h
  | .In => inR x y h fun b => Q (.v (.bl b)) h
  | .NotIn => inR x y h fun b => Q (.v (.bl (!b))) h
  | .Lt => ordR (fun i j => decide (i < j)) x y fun b => Q (.v (.bl b)) h
  | .LtE => ordR (fun i j => decide (i ≤ j)) x y fun b => Q (.v (.bl b)) h
  | .Gt => ordR (fun i j => decide (j < i)) x y fun b => Q (.v (.bl b)) h
  | .GtE => ordR (fun i j => decide (j ≤ i)) x y fun b => Q (.v (.bl b)) h
def ixR (x y : CR) (h : CH) (Q : WQ) : Prop :=
  oP (sqOf x h) fun xs => inI y fun i => oP (atI xs i) fun v => Q (.v v) h
def cutC (xs : List CV) (lo hi : Option Int) : List CV := (xs.drop (HT.sIx xs.length 0 lo)).take (HT.sIx xs.length xs.length hi - HT.sIx xs.length 0 lo)
def slR (x : CR) (lo hi : Option Int) (h : CH) (Q : WQ) : Prop :=
  match x with
  | .v (.tup xs) => Q (.v (.tup (cutC xs lo hi))) h
  | x => oP (lsOf x h) fun xs => Q (.al (cutC xs lo hi)) h
def hdP (xs : List CV) (k : CV → List CV → Prop) : Prop := match xs with
  | [] => False
  | x :: r => k x r
/-- the items of xs[lo:hi:st] -/
def pickC (xs : List CV) (lo hi st : Option Int) : List CV := (sliceRange (sliceBounds lo hi st xs.length).1 (sliceBounds lo hi st xs.length).2.1 (sliceBounds lo hi st xs.length).2.2).filterMap (xs[·]?)
def sl3R (x : CR) (lo hi st : Option Int) (h : CH) (Q : WQ) : Prop := oP (lsOf x h) fun xs => st ≠ some 0 ∧ Q (.al (pickC xs lo hi st)) h
/-- a slice's part: an int or None -/
def partI (r : CR) (k : Option Int → Prop) : Prop := match r with
  | .v (.int i) => k (some i)
  | .v .non => k none
  | _ => False
def srR (x : CR) (h : CH) (Q : WQ) : Prop := match x with
  | .v (.tup xs) => Q (.v (.tup xs.reverse)) h
  | x => oP (lsOf x h) fun xs => Q (.al xs.reverse) h
def intsOf : List CV → Option (List Int)
  | [] => some []
  | .int i :: r => (intsOf r).map (i :: ·)
  | _ => none
def blsOf : List CV → Option (List Bool)
  | [] => some []
  | .bl i :: r => (blsOf r).map (i :: ·)
  | _ => none
def isT (t : Ty) (cs : List Addr) (x : CR) (h : CH) : Option Bool :=
  match x with
  | .al _ => some (decide (t = .list))
  | .v .non => some false
  | .v (.bl _) => some (decide (t = .bool ∨ t = .int))
  | .v (.int _) => some (decide (t = .int))
  | .v (.str _) => some (decide (t = .str))
  | .v (.tup _) => some (decide (t = .tuple))
  | .v (.lst _) => some (decide (t = .list))
  | .v (.obj C _ _) => if C ∈ cs then some (decide (t = .own C)) else none
  | .v (.ref a) => match h[a]? with
    | some (.lst _) => some (decide (t = .list))
    | some (.fro _) => some (decide (t = .list))
    | some (.ins C _) => if C ∈ cs then some (decide (t = .own C)) else none
    | none => none
def b1 (rs : List CR) (k : CR → Prop) : Prop := match rs with
  | [x] => k x
  | _ => False
def bI2 (rs : List CR) (k : Int → Int → Prop) : Prop := match rs with
  | [.v (.int i), .v (.int j)] => k i j
  | _ => False
def maxI : List Int → Int
  | [] => 0
  | [x] => x
  | x :: y :: r => let m := maxI (y :: r); if m > x then m else x
def maxDI (ns : List Int) (d : Int) : Int := match ns with
  | [] => d
  | x :: r => maxI (x :: r)
def minI : List Int → Int
  | [] => 0
  | [x] => x
  | x :: y :: r => let m := minI (y :: r); if m < x then m else x
def toI (r : CR) (k : Int → Prop) : Prop := match r with
  | .v (.int i) => k i
  | .v (.bl b) => k (if b then 1 else 0)
  | _ => False
def toB (r : CR) (k : Bool → Prop) : Prop := match r with
  | .v (.int i) => k (i != 0)
  | .v (.bl b) => k b
  | _ => False
def bltR (b : Blt) (rs : List CR) (h : CH) (Q : WQ) : Prop :=
  match b with
  | .len => b1 rs fun x => oP (sqOf x h) fun xs => Q (.v (.int xs.length)) h
  | .abs => b1 rs fun x => inI x fun i => Q (.v (.int (if i < 0 then -i else i))) h
  | .min => bI2 rs fun i j => Q (.v (.int (if j < i then j else i))) h
  | .max => bI2 rs fun i j => Q (.v (.int (if j > i then j else i))) h
  | .min1 => b1 rs fun x => oP ((lsOf x h).bind intsOf) fun ns => 0 < ns.length ∧ Q (.v (.int (minI ns))) h
  | .max1 => b1 rs fun x => oP ((lsOf x h).bind intsOf) fun ns => 0 < ns.length ∧ Q (.v (.int (maxI ns))) h
  | .sum => b1 rs fun x => oP ((lsOf x h).bind intsOf) fun ns => Q (.v (.int ns.sum)) h
  | .all => b1 rs fun x => oP ((lsOf x h).bind blsOf) fun bs => Q (.v (.bl (bs.all id))) h
  | .any => b1 rs fun x => oP ((lsOf x h).bind blsOf) fun bs => Q (.v (.bl (bs.any id))) h
  | .int => b1 rs fun x => toI x fun i => Q (.v (.int i)) h
  | .bool => b1 rs fun x => toB x fun b => Q (.v (.bl b)) h
  | .list => b1 rs fun x => oP (sqOf x h) fun xs => Q (.al xs) h
  | .tuple => b1 rs fun x => oP (sqOf x h) fun xs => Q (.v (.tup xs)) h
  | .divmod => bI2 rs fun i j => CDiv i j ∧ Q (.v (.tup [.int (i / j), .int (i % j)])) h
  | _ => False
/-- a list changed in place: what is told, the new items -/
def bmF (m : Bm) (xs rs : List CV) : Option (CV × List CV) := match m, rs with
  | .remove, [.int k] => (intsOf xs).bind fun ns => (ns.findIdx? (· == k)).map fun j => (.non, xs.eraseIdx j)
  | .pop, [] => xs[xs.length - 1]?.map fun y => (y, xs.dropLast)
  | .pop, [.int i] => if -(2 ^ 63) ≤ i ∧ i < 2 ^ 63 then (seqIndex? i xs.length).bind fun k => xs[k]?.map fun y => (y, xs.eraseIdx k) else none
  | .insert, [.int i, y] => if xs.length < sizeLine ∧ 0 ≤ i ∧ i < 2 ^ 63 then some (.non, xs.take i.toNat ++ [y] ++ xs.drop i.toNat) else none
  | .reverse, [] => some (.non, xs.reverse)
  | .clear, [] => some (.non, [])
  | _, _ => none
def bmK (rs : List CV) (k : Int → Prop) : Prop := match rs with
  | [.int i] => k i
  | _ => False
def bmM (m : Bm) (o : CR) (rs : List CV) (h : CH) (Q : WQ) : Prop := match o with
  | .v (.ref a) => (match h[a]?, m, rs with
    | some (.lst xs), .append, [x] => xs.length < sizeLine ∧ Q (.v .non) (h.set a (.lst (xs ++ [x])))
    | some (.lst xs), .extend, [y] => oP (lsM (.v y) h) fun ys => xs.length + ys.length ≤ sizeLine ∧ Q (.v .non) (h.set a (.lst (xs ++ ys)))
    | some (.lst xs), m, rs => oP (bmF m xs rs) fun q => Q (.v q.1) (h.set a (.lst q.2))
    | _, _, _ => False)
  | _ => False
def bmR (m : Bm) (o : CR) (rs : List CV) (h : CH) (Q : WQ) : Prop :=
  match m with
  | .count => oP ((lsOf o h).bind intsOf) fun ns => bmK rs fun k => Q (.v (.int (ns.count k))) h
  | .index => oP ((lsOf o h).bind intsOf) fun ns => bmK rs fun k => oP (ns.findIdx? (· == k)) fun j => Q (.v (.int j)) h
  | m => bmM m o rs h Q

/-! ### targets -/
mutual
def wG : CT → CV → CSt → Option CSt
  | .name i, x, σ => some (sv σ i x)
  | .tup ts, .tup xs, σ => wGs ts xs σ
  | .tup _, _, _ => none
def wGs : CTs → List CV → CSt → Option CSt
  | .nil, [], σ => some σ
  | .cons t r, x :: xs, σ => (wG t x σ).bind (wGs r xs)
  | _, _, _ => none
end

mutual
/-- the names that a target binds -/
def ctN : CT → List Nat
  | .name i => [i]
  | .tup ts => ctNs ts
def ctNs : CTs → List Nat
  | .nil => []
  | .cons t r => ctN t ++ ctNs r
end
/-! ### walks -/
/-- over items xs while G stands: P by the turn -/
def wLoop (xs : List CV) (G : CH → Prop) (step : CV → CSt → CH → (CSt → CH → Prop) → Prop) (fin : CSt → CH → Prop) (σ : CSt) (h : CH) : Prop :=
  ∃ P : Nat → CSt → CH → Prop, P 0 σ h ∧ (∀ i σ h, i ≤ xs.length → P i σ h → G h) ∧ (∀ i x σ h, xs[i]? = some x → P i σ h → step x σ h (P (i + 1))) ∧ ∀ σ h, P xs.length σ h → fin σ h
/-- the same for a comprehension: the list made so far -/
def wComp (xs : List CV) (G : CH → Prop) (step : CV → List CV → CH → (List CV → CH → Prop) → Prop) (fin : List CV → CH → Prop) (acc : List CV) (h : CH) : Prop :=
  ∃ P : Nat → List CV → CH → Prop, P 0 acc h ∧ (∀ i acc h, i ≤ xs.length → P i acc h → G h) ∧ (∀ i x acc h, xs[i]? = some x → P i acc h → step x acc h (P (i + 1))) ∧ ∀ acc h, P xs.length acc h → fin acc h
def adopts : List CR → CH → (List CV → CH → Prop) → Prop
  | [], h, Q => Q [] h
  | r :: rs, h, Q => adopt r h fun x h1 => adopts rs h1 fun xs h2 => Q (x :: xs) h2
def look (tb : List (Addr × Spec × Nat × List CV)) (C : Addr) : Option (Spec × Nat × List CV) := match tb with
  | [] => none
  | (D, s) :: r => if D = C then some s else look r C

/-! ### values that point below n -/
mutual
def clV (n : Nat) : CV → Prop
  | .tup xs => clVs n xs
  | .lst xs => clVs n xs
  | .obj _ _ xs => clVs n xs
  | .ref a => a < n
  | _ => True
def clVs (n : Nat) : List CV → Prop
  | [] => True
  | x :: r => clV n x ∧ clVs n r
end
def clF (n : Nat) : List (Str × CV) → Prop
  | [] => True
  | x :: r => clV n x.2 ∧ clF n r
def clO (n : Nat) : CO → Prop
  | .lst xs => clVs n xs
  | .fro xs => clVs n xs
  | .ins _ fs => clF n fs
def clH (h : CH) : Prop := ∀ (a : Nat) (o : CO), h[a]? = some o → clO h.length o
/-- what a def leaves behind is dropped where nothing points to it -/
inductive Gc (h : CH) : CR → CH → CR → CH → Prop
  | all (r : CR) (h1 : CH) : Gc h r h1 r h1
  | cut (x : CV) (h2 gb : CH) (l : h.length ≤ h2.length) (c : clH h2) (cx : clV h2.length x) : Gc h (.v x) (h2 ++ gb) (.v x) h2
  | cutA (xs : List CV) (h2 gb : CH) (l : h.length ≤ h2.length) (c : clH h2) (cx : clVs h2.length xs) : Gc h (.al xs) (h2 ++ gb) (.al xs) h2
  | new (a : Nat) (xs : List CV) (h2 gb : CH) (l : h.length ≤ h2.length) (c : clH h2) (cx : clVs h2.length xs) (la : h2.length ≤ a) (ha : (h2 ++ gb)[a]? = some (.lst xs)) : Gc h (.v (.ref a)) (h2 ++ gb) (.al xs) h2
  | newI (a : Nat) (C : Addr) (ns : List Str) (xs : List CV) (h2 gb : CH) (l : h.length ≤ h2.length) (c : clH h2) (cx : clVs h2.length xs) (la : h2.length ≤ a) (ha : (h2 ++ gb)[a]? = some (.ins C (ns.zip xs))) (hl : ns.length = xs.length) : Gc h (.v (.ref a)) (h2 ++ gb) (.v (.obj C ns xs)) h2
def gcd (h : CH) (k : WQ) : WQ := fun r h1 => ∃ r' h2, Gc h r h1 r' h2 ∧ k r' h2
/-- a promise at its arguments -/
def ap (sp : Spec) (xs : List CV) (h : CH) (Q : WQ) (E : WX') : Prop := sp xs h Q E
/-- a method: its promise, how many arguments, what stands for those left out -/
def mthR (x : CR) (tb : List (Addr × Spec × Nat × List CV)) (m : Str) (h : CH) (k : CV → Spec → Nat → List CV → Prop) : Prop := match x with
  | .v (.obj C ns ys) => oP (look tb C) fun t => (ns.zip ys).lookup m = none ∧ k (.obj C ns ys) t.1 t.2.1 t.2.2
  | .v (.ref a) => (match h[a]? with
    | some (.ins C fs) => oP (look tb C) fun t => fs.lookup m = none ∧ k (.ref a) t.1 t.2.1 t.2.2
    | _ => False)
  | _ => False
def cnvR (t : Bool) (xs : List CV) : CR := match t with
  | true => .v (.tup xs)
  | false => .al xs
/-- == and != where instances are told apart by place -/
def eqOR (ob : List Addr) (neg : Bool) (x y : CR) (h : CH) (Q : WQ) : Prop := match x, y with
  | .v (.ref a), .v (.ref b) => (match h[a]?, h[b]? with
    | some (.ins C _), some (.ins D _) => (C = D ∧ C ∈ ob) ∧ Q (.v (.bl (neg ^^ decide (a = b)))) h
    | _, _ => eqR (.v (.ref a)) (.v (.ref b)) h fun b => Q (.v (.bl (neg ^^ b))) h)
  | x, y => eqR x y h fun b => Q (.v (.bl (neg ^^ b))) h
/-- the class of an instance -/
def insC (x : CR) (h : CH) : Option (Addr × CV) := match x with
  | .v (.obj C ns ys) => some (C, .obj C ns ys)
  | .v (.ref a) => (match h[a]? with
    | some (.ins C _) => some (C, .ref a)
    | _ => none)
  | _ => none
/-- == and != by the class's own __eq__ -/
def eqIR (tb : List (Addr × Spec × Nat × List CV)) (neg : Bool) (x y : CR) (h : CH) (Q : WQ) (E : WX') : Prop := match insC x h, insC y h with
  | some (C, v), some (D, u) => C = D ∧ oP (look tb C) fun t => ([v, u] ++ t.2.2).length = t.2.1 ∧ ap t.1 ([v, u] ++ t.2.2) h (fun r h1 => inB r fun b => Q (.v (.bl (neg ^^ b))) h1) E
  | _, _ => eqR x y h fun b => Q (.v (.bl (neg ^^ b))) h
/-- .. the one way or the other -/
def eqMR (ob : List Addr) (tb : List (Addr × Spec × Nat × List CV)) (neg : Bool) (x y : CR) (h : CH) (Q : WQ) (E : WX') : Prop := eqOR ob neg x y h Q ∨ eqIR tb neg x y h Q E
/-- len of an instance with an own __len__, or as ever -/
def lenR (tb : List (Addr × Spec × Nat × List CV)) (x : CR) (h : CH) (Q : WQ) (E : WX') : Prop := match x with
  | .v (.obj C ns ys) => oP (look tb C) fun t => (CV.obj C ns ys :: t.2.2).length = t.2.1 ∧ ap t.1 (.obj C ns ys :: t.2.2) h (fun r h1 => inI r fun i => (0 ≤ i ∧ i < 2 ^ 63) ∧ Q (.v (.int i)) h1) E
  | .v (.ref a) => (match h[a]? with
    | some (.ins C _) => oP (look tb C) fun t => (CV.ref a :: t.2.2).length = t.2.1 ∧ ap t.1 (.ref a :: t.2.2) h (fun r h1 => inI r fun i => (0 ≤ i ∧ i < 2 ^ 63) ∧ Q (.v (.int i)) h1) E
    | _ => bltR .len [.v (.ref a)] h Q)
  | x => bltR .len [x] h Q
mutual
def wE : CE → CSt → CH → WQ → WX' → Prop
  | .bad, _, _, _, _ => False
  | .con v, _, h, Q, _ => Q (.v v) h
  | .var i, σ, h, Q, _ => vr (gv σ i) h Q
  | .thaw e, σ, h, Q, E => wE e σ h (fun r h1 => thw r h1 Q) E
  | .cool e, σ, h, Q, E => wE e σ h (gcd h Q) E
  | .maxD a d, σ, h, Q, E => wE a σ h (fun x h1 => wE d σ h1 (fun y h2 => oP ((tpOf x).bind intsOf) fun ns => inI y fun m => Q (.v (.int (maxDI ns m))) h2) E) E
  | .bin op a b, σ, h, Q, E => wE a σ h (fun x h1 => wE b σ h1 (fun y h2 => binR op x y h2 Q) E) E
  | .neg a, σ, h, Q, E => wE a σ h (fun x h1 => inI x fun i => Q (.v (.int (-i))) h1) E
  | .nt a, σ, h, Q, E => wB a σ h (fun b h1 => Q (.v (.bl (!b))) h1) E
  | .cmp op a b, σ, h, Q, E => wE a σ h (fun x h1 => wE b σ h1 (fun y h2 => cmpR op x y h2 Q) E) E
  | .chn o1 o2 a b c, σ, h, Q, E => wE a σ h (fun x h1 => wE b σ h1 (fun y h2 => cmpR o1 x y h2 fun r h3 => inB r fun k => cnd k (wE c σ h3 (fun z h4 => cmpR o2 y z h4 Q) E) (Q (.v (.bl false)) h3)) E) E
  | .an a b, σ, h, Q, E => wE a σ h (fun x h1 => oP (truC x h1) fun k => cnd k (wE b σ h1 Q E) (Q x h1)) E
  | .orr a b, σ, h, Q, E => wE a σ h (fun x h1 => oP (truC x h1) fun k => cnd k (Q x h1) (wE b σ h1 Q E)) E
  | .ife c a b, σ, h, Q, E => wB c σ h (fun k h1 => cnd k (wE a σ h1 Q E) (wE b σ h1 Q E)) E
  | .tup as, σ, h, Q, E => wA as σ h (fun rs h1 => rs.length ≤ sizeLine ∧ adopts rs h1 fun xs h2 => Q (.v (.tup xs)) h2) E
  | .lst as, σ, h, Q, E => wA as σ h (fun rs h1 => rs.length ≤ sizeLine ∧ adopts rs h1 fun xs h2 => Q (.al xs) h2) E
  | .ix a b, σ, h, Q, E => wE a σ h (fun x h1 => wE b σ h1 (fun y h2 => ixR x y h2 Q) E) E
  | .sl a lo hi, σ, h, Q, E => wE a σ h (fun x h1 => wO lo σ h1 (fun l h2 => wO hi σ h2 (fun u h3 => slR x l u h3 Q) E) E) E
  | .srev a, σ, h, Q, E => wE a σ h (fun x h1 => srR x h1 Q) E
  | .sl3 a lo hi st, σ, h, Q, E => wE a σ h (fun x h1 => wO lo σ h1 (fun l h2 => wO hi σ h2 (fun u h3 => wO st σ h3 (fun t h4 => sl3R x l u t h4 Q) E) E) E) E
  | .fld o f cs, σ, h, Q, E => wE o σ h (fun x h1 => fldR x f cs h1 Q) E
  | .call sp n ds as, σ, h, Q, E => wA as σ h (fun rs h1 => adopts rs h1 fun xs h2 => (xs ++ ds).length = n ∧ ap sp (xs ++ ds) h2 Q E) E
  | .callk sp np nk ar as ks, σ, h, Q, E => wA as σ h (fun rs h1 => wA ks σ h1 (fun rs2 h2 => adopts (rs ++ rs2) h2 fun xs h4 => (rs.length = np ∧ rs2.length = nk) ∧ ap sp (arC ar (xs.take np) (xs.drop np)) h4 Q E) E) E
  | .newk C sp np nk ar as ks, σ, h, Q, E => wA as σ h (fun rs h1 => wA ks σ h1 (fun rs2 h2 => adopts (rs ++ rs2) h2 fun xs h4 => (rs.length = np ∧ rs2.length = nk) ∧ ap sp (arC ar (.ref h4.length :: xs.take np) (xs.drop np)) (h4 ++ [.ins C []]) (fun r h5 => r = .v .non ∧ Q (.v (.ref h4.length)) h5) E) E) E
  | .lrng t a b, σ, h, Q, E => wE a σ h (fun x h1 => wE b σ h1 (fun y h2 => inI x fun i => inI y fun j => (-(2 ^ 62) ≤ i ∧ i < 2 ^ 62 ∧ -(2 ^ 62) ≤ j ∧ j < 2 ^ 62 ∧ (j - i).toNat ≤ 2 ^ 24) ∧ Q (cnvR t ((List.range (j - i).toNat).map fun (k : Nat) => .int (i + (k : Int)))) h2) E) E
  | .new C sp n ds as, σ, h, Q, E => wA as σ h (fun rs h1 => adopts rs h1 fun xs h2 => (xs ++ ds).length + 1 = n ∧ ap sp (.ref h2.length :: (xs ++ ds)) (h2 ++ [.ins C []]) (fun r h3 => r = .v .non ∧ Q (.v (.ref h2.length)) h3) E) E
  | .mth tb m o as, σ, h, Q, E => wE o σ h (fun x h1 => mthR x tb m h1 fun v sp n ds => wA as σ h1 (fun rs h2 => adopts rs h2 fun xs h3 => (xs ++ ds).length + 1 = n ∧ ap sp (v :: (xs ++ ds)) h3 Q E) E) E
  | .lnrg a, σ, h, Q, E => wE a σ h (fun x h1 => inI x fun j => j < 2 ^ 62 ∧ Q (.v (.int j.toNat)) h1) E
  | .lenI tb e, σ, h, Q, E => wE e σ h (fun x h1 => lenR tb x h1 Q E) E
  | .cmpO ob neg a b, σ, h, Q, E => wE a σ h (fun x h1 => wE b σ h1 (fun y h2 => eqOR ob neg x y h2 Q) E) E
  | .cmpI tb neg a b, σ, h, Q, E => wE a σ h (fun x h1 => wE b σ h1 (fun y h2 => eqIR tb neg x y h2 Q E) E) E
  | .cmpM ob tb neg a b, σ, h, Q, E => wE a σ h (fun x h1 => wE b σ h1 (fun y h2 => eqMR ob tb neg x y h2 Q E) E) E
  | .blt b as, σ, h, Q, E => wA as σ h (fun rs h1 => bltR b rs h1 Q) E
  | .bm m o as, σ, h, Q, E => wE o σ h (fun x h1 => (lsOf x h1).isSome = true ∧ wA as σ h1 (fun rs h2 => adopts rs h2 fun xs h3 => bmR m x xs h3 Q) E) E
  | .isi e t cs, σ, h, Q, E => wE e σ h (fun x h1 => oP (isT t cs x h1) fun b => Q (.v (.bl b)) h1) E
  | .lc own t it c e, σ, h, Q, E => wI it σ h (fun xs G h1 => xs.length < sizeLine ∧ wComp xs G (fun x acc h2 N => oP (wG t x (uvs σ own)) fun σ2 =>
      wB c σ2 h2 (fun b h3 => cnd b (wE e σ2 h3 (fun r h4 => adopt r h4 fun y h5 => N (acc ++ [y]) h5) (fun _ _ => False)) (N acc h3)) (fun _ _ => False)) (fun acc h2 => Q (.al acc) h2) [] h1) E
  | .lc2 own t it c t1 it1 c1 e, σ, h, Q, E => wI it σ h (fun xs G h1 => wComp xs G (fun x acc h2 N => oP (wG t x (uvs σ own)) fun σ2 =>
      wB c σ2 h2 (fun b h3 => cnd b (wI it1 σ2 h3 (fun ys G1 h4 => wComp ys G1 (fun y acc1 h5 N1 => oP (wG t1 y (uvs σ2 (ctN t1))) fun σ3 =>
        wB c1 σ3 h5 (fun b1 h6 => cnd b1 (wE e σ3 h6 (fun r h7 => adopt r h7 fun z h8 => acc1.length < sizeLine ∧ N1 (acc1 ++ [z]) h8) (fun _ _ => False)) (N1 acc1 h6)) (fun _ _ => False)) N acc h4) (fun _ _ => False)) (N acc h3)) (fun _ _ => False)) (fun acc h2 => Q (.al acc) h2) [] h1) E
def wB : CB → CSt → CH → (Bool → CH → Prop) → WX' → Prop
  | .yes, _, h, Q, _ => Q true h
  | .val e, σ, h, Q, E => wE e σ h (fun x h1 => oP (truC x h1) fun b => Q b h1) E
  | .nt a, σ, h, Q, E => wB a σ h (fun b h1 => Q (!b) h1) E
  | .an a b, σ, h, Q, E => wB a σ h (fun c h1 => cnd c (wB b σ h1 Q E) (Q false h1)) E
  | .orr a b, σ, h, Q, E => wB a σ h (fun c h1 => cnd c (Q true h1) (wB b σ h1 Q E)) E
def wO : CO1 → CSt → CH → (Option Int → CH → Prop) → WX' → Prop
  | .none, _, h, Q, _ => Q none h
  | .some e, σ, h, Q, E => wE e σ h (fun x h1 => partI x fun i => Q i h1) E
def wA : CA → CSt → CH → (List CR → CH → Prop) → WX' → Prop
  | .nil, _, h, Q, _ => Q [] h
  | .cons e r, σ, h, Q, E => wE e σ h (fun x h1 => wA r σ h1 (fun xs h2 => Q (x :: xs) h2) E) E
/-- what is walked: the items, what must stay -/
def wI : CI → CSt → CH → (List CV → (CH → Prop) → CH → Prop) → WX' → Prop
  | .val e, σ, h, R, E => wE e σ h (fun x h1 => oP (sqOf x h1) fun xs => R xs (gdOf x h1) h1) E
  | .rng1 a, σ, h, R, E => wE a σ h (fun x h1 => inI x fun j => (-(2 ^ 62) ≤ j ∧ j < 2 ^ 62) ∧ R ((List.range j.toNat).map fun (k : Nat) => .int (k : Int)) (fun _ => True) h1) E
  | .rng2 a b, σ, h, R, E => wE a σ h (fun x h1 => wE b σ h1 (fun y h2 => inI x fun i => inI y fun j => (-(2 ^ 62) ≤ i ∧ i < 2 ^ 62 ∧ -(2 ^ 62) ≤ j ∧ j < 2 ^ 62) ∧ R ((List.range (j - i).toNat).map fun (k : Nat) => .int (i + (k : Int))) (fun _ => True) h2) E) E
  | .rng3 a b c, σ, h, R, E => wE a σ h (fun x h1 => wE b σ h1 (fun y h2 => wE c σ h2 (fun z h3 => inI x fun i => inI y fun j => inI z fun k => (-(2 ^ 60) ≤ i ∧ i < 2 ^ 60 ∧ -(2 ^ 60) ≤ j ∧ j < 2 ^ 60 ∧ 0 < k ∧ k < 2 ^ 29) ∧ R ((List.range ((j - i + (k - 1)) / k).toNat).map fun (q : Nat) => .int (i + (q : Int) * k)) (fun _ => True) h3) E) E) E
  | .enum e, σ, h, R, E => wE e σ h (fun x h1 => oP (sqOf x h1) fun xs => R (xs.zipIdx.map fun (x, k) => .tup [.int (k : Int), x]) (gdOf x h1) h1) E
  | .zip a b, σ, h, R, E => wE a σ h (fun x h1 => wE b σ h1 (fun y h2 => oP (sqOf x h2) fun xs => oP (sqOf y h2) fun ys => R (List.zipWith (fun x y => .tup [x, y]) xs ys) (fun h' => gdOf x h2 h' ∧ gdOf y h2 h') h2) E) E
  | .enumz a b, σ, h, R, E => wE a σ h (fun x h1 => wE b σ h1 (fun y h2 => oP (sqOf x h2) fun xs => oP (sqOf y h2) fun ys => R ((List.zipWith (fun x y => .tup [x, y]) xs ys).zipIdx.map fun (x, k) => .tup [.int (k : Int), x]) (fun h' => gdOf x h2 h' ∧ gdOf y h2 h') h2) E) E
  | .rev e, σ, h, R, E => wE e σ h (fun x h1 => oP (sqOf x h1) fun xs => R xs.reverse (gdOf x h1) h1) E
end

structure CEnds where
  nx : CSt → CH → Prop
  rt : WQ
  bk : CSt → CH → Prop
  ct : CSt → CH → Prop
  ex : WX'
def wS : CS → CEnds → CSt → CH → Prop
  | .bad, _, _, _ => False
  | .skip, D, σ, h => D.nx σ h
  | .seq a b, D, σ, h => wS a { D with nx := wS b D } σ h
  | .asg i e, D, σ, h => wE e σ h (fun r h1 => adopt r h1 fun x h2 => D.nx (sv σ i x) h2) D.ex
  | .asgT t e, D, σ, h => wE e σ h (fun r h1 => inV r fun x => oP (wG t x σ) fun σ2 => D.nx σ2 h1) D.ex
  | .setIx o i e, D, σ, h => wE e σ h (fun r h1 => adopt r h1 fun x h2 => wE o σ h2 (fun ro h3 => wE i σ h3 (fun ri h4 => stIx ro ri x h4 fun h5 => D.nx σ h5) D.ex) D.ex) D.ex
  | .setFld o f cs e, D, σ, h => wE e σ h (fun r h1 => adopt r h1 fun x h2 => wE o σ h2 (fun ro h3 => stFld ro f cs x h3 fun h4 => D.nx σ h4) D.ex) D.ex
  | .aug op i e, D, σ, h => vI (gv σ i) fun x => wE e σ h (fun r h1 => inI r fun y => binA op x y fun n => D.nx (sv σ i (.int n)) h1) D.ex
  | .augFld op o f cs e, D, σ, h => wE o σ h (fun ro h1 => agFld ro f cs h1 fun a C fs x => wE e σ h1 (fun r h2 => inI r fun y => h2[a]? = some (.ins C fs) ∧ binA op x y fun n => D.nx σ (h2.set a (.ins C (putC f (.int n) fs)))) D.ex) D.ex
  | .asgS i j e, D, σ, h => wE e σ h (fun r h1 => oP (lsOf r h1) fun xs => hdP xs fun x rest => D.nx (sv (sv σ i x) j (.lst rest)) h1) D.ex
  | .asgD is as, D, σ, h => wA as σ h (fun rs h1 => adopts rs h1 fun xs h2 => xs.length = is.length ∧ D.nx (svs σ is xs) h2) D.ex
  | .ret e, D, σ, h => wE e σ h D.rt D.ex
  | .ex e, D, σ, h => wE e σ h (fun _ h1 => D.nx σ h1) D.ex
  | .ife c a b, D, σ, h => wB c σ h (fun k h1 => cnd k (wS a D σ h1) (wS b D σ h1)) D.ex
  | .forr t it b, D, σ, h => wI it σ h (fun xs G h1 => wLoop xs G (fun x σ h2 N => oP (wG t x σ) fun σ2 => wS b { D with nx := N, ct := N, bk := D.nx } σ2 h2) D.nx σ h1) D.ex
  | .whl c b, D, σ, h => ∃ P : Nat → CSt → CH → Prop, (∃ m, P m σ h) ∧ ∀ m σ h, P m σ h → wB c σ h (fun k h1 => cnd k
      (∃ N : CSt → CH → Prop, (∀ σ' h', N σ' h' → ∃ m', m' < m ∧ P m' σ' h') ∧ wS b { D with nx := N, ct := N, bk := D.nx } σ h1) (D.nx σ h1)) D.ex
  | .brk, D, σ, h => D.bk σ h
  | .cont, D, σ, h => D.ct σ h
end G

namespace G
open PySem PySem.Spec PyProof.Rows L2

/-! ### addresses of ours: what may be changed (by number), and what stays for ever -/
structure Mu where
  l : List Addr
  z : Addr → Prop
instance : Membership Addr Mu := ⟨fun μ p => p ∈ μ.l ∨ μ.z p⟩
def Mu.add (μ : Mu) (p : Addr) : Mu := ⟨μ.l ++ [p], μ.z⟩
def Mu.frz (μ : Mu) (p : Addr) : Mu := ⟨μ.l, fun q => μ.z q ∨ q = p⟩
def Mu.cut (μ : Mu) (n : Nat) : Mu := ⟨μ.l.take n, μ.z⟩
theorem Mu.mem_add {μ : Mu} {p q : Addr} (h : q ∈ μ.add p) : q ∈ μ ∨ q = p := by
  rcases h with h | h
  · rcases List.mem_append.mp h with h | h
    · exact .inl (.inl h)
    · simp at h; exact .inr h
  · exact .inl (.inr h)
theorem Mu.mem_frz {μ : Mu} {p q : Addr} (h : q ∈ μ.frz p) : q ∈ μ ∨ q = p := by
  rcases h with h | h | h
  · exact .inl (.inl h)
  · exact .inl (.inr h)
  · exact .inr h
theorem Mu.mem_cut {μ : Mu} {n : Nat} {q : Addr} (h : q ∈ μ.cut n) : q ∈ μ := by
  rcases h with h | h
  · exact .inl (List.take_subset _ _ h)
  · exact .inr h
structure Mu.Le (μ μ' : Mu) : Prop where
  pre : μ.l <+: μ'.l
  pz : ∀ p, μ.z p → μ'.z p
theorem Mu.le_add {μ : Mu} {p : Addr} : Mu.Le μ (μ.add p) := ⟨List.prefix_append _ _, fun _ h => h⟩
theorem Mu.le_frz {μ : Mu} {p : Addr} : Mu.Le μ (μ.frz p) := ⟨List.prefix_refl _, fun _ h => .inl h⟩
/-! ### how plain values lie -/
def KT (K : PySem.W.Frag) (p : Addr) (vs : List V) : Prop := ∃ (o : Obj) (its : Array Value) (n : Nat), K.lookup p = some o ∧ o.cls = .type "tuple" ∧ o.data = .seq its n ∧ its.size ≤ sizeLine ∧ Vals vs its.toList
def RT (K : PySem.W.Frag) (H : Hp) (μ : Mu) (p : Addr) (vs : List V) : Prop := (Rd H p (.tup vs) ∧ p ∉ μ) ∨ KT K p vs
theorem RT.sq {K : PySem.W.Frag} {H : Hp} {μ : Mu} {p : Addr} {vs : List V} (h : RT K H μ p vs) : SqT K H p vs := by
  rcases h with ⟨h, _⟩ | h
  · exact .inl h
  · exact .inr h
mutual
inductive RV (K : PySem.W.Frag) (H : Hp) (μ : Mu) : CV → V → Prop
  | non : RV K H μ .non .non
  | bl (b : Bool) : RV K H μ (.bl b) (.bl b)
  | int (i : Int) : RV K H μ (.int i) (.int i)
  | str {s : Str} (h : s.length ≤ sizeLine) : RV K H μ (.str s) (.str s)
  | tup {xs : List CV} {p : Addr} {vs : List V} (h : RT K H μ p vs) (r : RVs K H μ xs vs) : RV K H μ (.tup xs) (.ref p)
  | lst {xs : List CV} {p : Addr} {vs : List V} (z : μ.z p) (h : H p = some (.lst vs)) (r : RVs K H μ xs vs) : RV K H μ (.lst xs) (.ref p)
  | obj {C : Addr} {ns : List Str} {xs : List CV} {p : Addr} {dx : Addr} {vs : List V} (z : μ.z p) (h : H p = some (.ins C dx (ns.zip vs))) (hl : ns.length = xs.length) (r : RVs K H μ xs vs) : RV K H μ (.obj C ns xs) (.ref p)
  | ref {a : Nat} {p : Addr} (h : μ.l[a]? = some p) : RV K H μ (.ref a) (.ref p)
inductive RVs (K : PySem.W.Frag) (H : Hp) (μ : Mu) : List CV → List V → Prop
  | nil : RVs K H μ [] []
  | cons {x : CV} {v : V} {xs : List CV} {vs : List V} (h : RV K H μ x v) (r : RVs K H μ xs vs) : RVs K H μ (x :: xs) (v :: vs)
end
/-- the fields of an instance -/
inductive RF (K : PySem.W.Frag) (H : Hp) (μ : Mu) : List (Str × CV) → List (Str × V) → Prop
  | nil : RF K H μ [] []
  | cons {f : Str} {x : CV} {v : V} {xs : List (Str × CV)} {vs : List (Str × V)} (h : RV K H μ x v) (r : RF K H μ xs vs) : RF K H μ ((f, x) :: xs) ((f, v) :: vs)
structure Ext (H : Hp) (μ : Mu) (H' : Hp) (μ' : Mu) : Prop where
  pre : μ.l <+: μ'.l
  pz : ∀ p, μ.z p → μ'.z p
  fresh : ∀ p ∈ μ', p ∉ μ → H p = none
  keep : ∀ p o, p ∉ μ → H p = some o → H' p = some o
  kz : ∀ p o, μ.z p → H p = some o → H' p = some o
section
variable {K : PySem.W.Frag} {H H1 H' : Hp} {μ μ1 μ' : Mu}
theorem Ext.refl : Ext H μ H μ := ⟨List.prefix_refl _, fun _ h => h, fun p h n => absurd h n, fun _ _ _ e => e, fun _ _ _ e => e⟩
theorem Ext.trans (a : Ext H μ H1 μ1) (b : Ext H1 μ1 H' μ') : Ext H μ H' μ' := by
  refine ⟨a.pre.trans b.pre, fun p h => b.pz p (a.pz p h), fun p hp hn => ?_, fun p o hn e => ?_, fun p o h e => b.kz p o (a.pz p h) (a.kz p o h e)⟩
  · by_cases h1 : p ∈ μ1
    · exact a.fresh p h1 hn
    · have z := b.fresh p hp h1
      cases q : H p with
      | none => rfl
      | some o => rw [a.keep p o hn q] at z; cases z
  · refine b.keep p o (fun h1 => ?_) (a.keep p o hn e)
    have z := a.fresh p h1 hn
    rw [e] at z; cases z
theorem get_pre {a : Nat} {p : Addr} (h : μ.l <+: μ'.l) (e : μ.l[a]? = some p) : μ'.l[a]? = some p := by
  obtain ⟨t, ht⟩ := h
  rw [← ht]
  have := (List.getElem?_eq_some_iff.mp e).1
  rw [List.getElem?_append_left this]; exact e
theorem RT.ext {p : Addr} {vs : List V} (e : Ext H μ H' μ') (h : RT K H μ p vs) : RT K H' μ' p vs := by
  rcases h with ⟨h, n⟩ | h
  · refine .inl ?_
    have st : ∀ o, H p = some o → H' p = some o ∧ p ∉ μ' := fun o q => ⟨e.keep p o n q, fun m => by
      have z := e.fresh p m n
      rw [q] at z; cases z⟩
    rcases h with q | ⟨o, q⟩
    · exact ⟨.inl (st _ q).1, (st _ q).2⟩
    · exact ⟨.inr ⟨o, (st _ q).1⟩, (st _ q).2⟩
  · exact .inr h
mutual
theorem RV.ext (e : Ext H μ H' μ') : ∀ {x : CV} {v : V}, RV K H μ x v → RV K H' μ' x v
  | _, _, .non => .non
  | _, _, .bl b => .bl b
  | _, _, .int i => .int i
  | _, _, .str h => .str h
  | _, _, .tup h r => .tup (h.ext e) (RVs.ext e r)
  | _, _, .lst z h r => .lst (e.pz _ z) (e.kz _ _ z h) (RVs.ext e r)
  | _, _, .obj z h l r => .obj (e.pz _ z) (e.kz _ _ z h) l (RVs.ext e r)
  | _, _, .ref h => .ref (get_pre e.pre h)
theorem RVs.ext (e : Ext H μ H' μ') : ∀ {xs : List CV} {vs : List V}, RVs K H μ xs vs → RVs K H' μ' xs vs
  | _, _, .nil => .nil
  | _, _, .cons h r => .cons (RV.ext e h) (RVs.ext e r)
end
theorem RF.ext (e : Ext H μ H' μ') : ∀ {xs : List (Str × CV)} {vs : List (Str × V)}, RF K H μ xs vs → RF K H' μ' xs vs
  | _, _, .nil => .nil
  | _, _, .cons h r => .cons (h.ext e) (RF.ext e r)
/-- the same, less the lists that stood at B and are not of ours -/
structure ExtT (B H : Hp) (μ : Mu) (H' : Hp) (μ' : Mu) : Prop where
  pre : μ.l <+: μ'.l
  pz : ∀ p, μ.z p → μ'.z p
  kz : ∀ p o, μ.z p → H p = some o → H' p = some o
  fresh : ∀ p ∈ μ', p ∉ μ → H p = none
  keep : ∀ p o, p ∉ μ → H p = some o → (B p = none ∨ ∀ vs, o ≠ .lst vs) → H' p = some o
theorem Ext.t {B : Hp} (e : Ext H μ H' μ') : ExtT B H μ H' μ' := ⟨e.pre, e.pz, e.kz, e.fresh, fun p o n q _ => e.keep p o n q⟩
theorem ExtT.refl {B : Hp} : ExtT B H μ H μ := Ext.refl.t
theorem ExtT.stay {B : Hp} {o : HO} {p : Addr} (e : ExtT B H μ H' μ') (n : p ∉ μ) (q : H p = some o) (c : B p = none ∨ ∀ vs, o ≠ .lst vs) : H' p = some o ∧ p ∉ μ' := ⟨e.keep p o n q c, fun m => by
  have z := e.fresh p m n
  rw [q] at z; cases z⟩
theorem ExtT.on {B : Hp} (a : ExtT B H μ H1 μ1) (b : Ext H1 μ1 H' μ') (hn : ∀ p, p ∉ μ1 → H1 p = none → H p = none) : ExtT B H μ H' μ' := by
  refine ⟨a.pre.trans b.pre, fun p h => b.pz p (a.pz p h), fun p o h e => b.kz p o (a.pz p h) (a.kz p o h e), fun p hp hn' => ?_, fun p o n q c => ?_⟩
  · by_cases h1 : p ∈ μ1
    · exact a.fresh p h1 hn'
    · exact hn p h1 (b.fresh p hp h1)
  · obtain ⟨x, y⟩ := a.stay n q c
    exact b.keep p o y x
theorem RT.extT {B : Hp} {p : Addr} {vs : List V} (e : ExtT B H μ H' μ') (h : RT K H μ p vs) : RT K H' μ' p vs := by
  rcases h with ⟨h, n⟩ | h
  · refine .inl ?_
    rcases h with q | ⟨o, q⟩
    · obtain ⟨a, b⟩ := e.stay n q (.inr fun _ z => by cases z)
      exact ⟨.inl a, b⟩
    · obtain ⟨a, b⟩ := e.stay n q (.inr fun _ z => by cases z)
      exact ⟨.inr ⟨o, a⟩, b⟩
  · exact .inr h
mutual
theorem RV.extT {B : Hp} (e : ExtT B H μ H' μ') : ∀ {x : CV} {v : V}, RV K H μ x v → RV K H' μ' x v
  | _, _, .non => .non
  | _, _, .bl b => .bl b
  | _, _, .int i => .int i
  | _, _, .str h => .str h
  | _, _, .tup h r => .tup (h.extT e) (RVs.extT e r)
  | _, _, .lst z h r => .lst (e.pz _ z) (e.kz _ _ z h) (RVs.extT e r)
  | _, _, .obj z h l r => .obj (e.pz _ z) (e.kz _ _ z h) l (RVs.extT e r)
  | _, _, .ref h => .ref (get_pre e.pre h)
theorem RVs.extT {B : Hp} (e : ExtT B H μ H' μ') : ∀ {xs : List CV} {vs : List V}, RVs K H μ xs vs → RVs K H' μ' xs vs
  | _, _, .nil => .nil
  | _, _, .cons h r => .cons (RV.extT e h) (RVs.extT e r)
end
theorem RVs.length : ∀ {xs : List CV} {vs : List V}, RVs K H μ xs vs → xs.length = vs.length
  | _, _, .nil => rfl
  | _, _, .cons _ r => by simp [RVs.length r]
theorem RVs.append : ∀ {xs ys : List CV} {vs ws : List V}, RVs K H μ xs vs → RVs K H μ ys ws → RVs K H μ (xs ++ ys) (vs ++ ws)
  | _, _, _, _, .nil, s => s
  | _, _, _, _, .cons h r, s => .cons h (RVs.append r s)
theorem RVs.get : ∀ {xs : List CV} {vs : List V} {i : Nat} {x : CV}, RVs K H μ xs vs → xs[i]? = some x → ∃ v, vs[i]? = some v ∧ RV K H μ x v
  | _, _, _, _, .nil, e => by simp at e
  | _, _, 0, _, .cons h _, e => by simp at e; subst e; exact ⟨_, rfl, h⟩
  | _, _, i + 1, x, .cons _ r, e => by
    obtain ⟨v, a, b⟩ := RVs.get (i := i) (x := x) r (by simpa using e)
    exact ⟨v, by simpa using a, b⟩
theorem RVs.take : ∀ {xs : List CV} {vs : List V} (n : Nat), RVs K H μ xs vs → RVs K H μ (xs.take n) (vs.take n)
  | _, _, 0, _ => .nil
  | _, _, _ + 1, .nil => .nil
  | _, _, n + 1, .cons r t => .cons r (RVs.take n t)
theorem RVs.drop : ∀ {xs : List CV} {vs : List V} (n : Nat), RVs K H μ xs vs → RVs K H μ (xs.drop n) (vs.drop n)
  | _, _, 0, r => r
  | _, _, _ + 1, .nil => .nil
  | _, _, n + 1, .cons _ t => RVs.drop n t
theorem RVs.set {x : CV} {u : V} (r : RV K H μ x u) : ∀ {xs : List CV} {us : List V} (i : Nat), RVs K H μ xs us → RVs K H μ (xs.set i x) (us.set i u)
  | _, _, _, .nil => .nil
  | _, _, 0, .cons _ t => .cons r t
  | _, _, i + 1, .cons q t => .cons q (RVs.set r i t)
theorem RVs.reverse {xs : List CV} {us : List V} (h : RVs K H μ xs us) : RVs K H μ xs.reverse us.reverse := by
  induction xs generalizing us with
  | nil => cases h; exact .nil
  | cons x xs ih =>
    cases h with
    | cons a b => rw [List.reverse_cons, List.reverse_cons]; exact (ih b).append (.cons a .nil)
theorem RVs.rep {xs : List CV} {us : List V} (h : RVs K H μ xs us) : ∀ k : Nat, RVs K H μ (List.replicate k xs).flatten (List.replicate k us).flatten
  | 0 => .nil
  | k + 1 => by
    rw [List.replicate_succ, List.replicate_succ, List.flatten_cons, List.flatten_cons]
    exact h.append (RVs.rep h k)
theorem RF.put {f : Str} {x : CV} {v : V} (h : RV K H μ x v) : ∀ {xs : List (Str × CV)} {vs : List (Str × V)}, RF K H μ xs vs → RF K H μ (putC f x xs) (putF f v vs)
  | _, _, .nil => .cons h .nil
  | _, _, .cons (f := g) a r => by
    unfold putC putF
    by_cases e : g = f
    · rw [if_pos e, if_pos e]; exact .cons h r
    · rw [if_neg e, if_neg e]; exact .cons a (RF.put h r)
theorem RF.look {f : Str} : ∀ {xs : List (Str × CV)} {vs : List (Str × V)} {x : CV}, RF K H μ xs vs → xs.lookup f = some x → ∃ v, vs.lookup f = some v ∧ RV K H μ x v
  | _, _, _, .nil, e => by simp at e
  | _, _, x, .cons (f := g) a r, e => by
    rw [List.lookup_cons] at e ⊢
    cases q : f == g with
    | true => rw [q] at e; cases e; exact ⟨_, rfl, a⟩
    | false => rw [q] at e; exact RF.look r e
theorem RF.noLook {f : Str} : ∀ {xs : List (Str × CV)} {vs : List (Str × V)}, RF K H μ xs vs → xs.lookup f = none → vs.lookup f = none
  | _, _, .nil, e => rfl
  | _, _, .cons (f := g) a r, e => by
    rw [List.lookup_cons] at e ⊢
    cases q : f == g with
    | true => rw [q] at e; cases e
    | false => rw [q] at e; exact RF.noLook r e
theorem RVs.zipF : ∀ {ns : List Str} {xs : List CV} {vs : List V}, RVs K H μ xs vs → RF K H μ (ns.zip xs) (ns.zip vs)
  | [], _, _, _ => .nil
  | _ :: _, _, _, .nil => .nil
  | _ :: _, _, _, .cons h r => .cons h (RVs.zipF r)
theorem RF.length : ∀ {xs : List (Str × CV)} {vs : List (Str × V)}, RF K H μ xs vs → xs.length = vs.length
  | _, _, .nil => rfl
  | _, _, .cons _ r => by simp [RF.length r]
end

/-! ### the heaps -/
def RO (K : PySem.W.Frag) (H : Hp) (μ : Mu) : CO → Addr → Prop
  | .lst xs, p => ∃ vs, H p = some (.lst vs) ∧ RVs K H μ xs vs
  | .fro xs, p => ∃ o vs, H p = some (.frz o (.lst vs)) ∧ RVs K H μ xs vs
  | .ins C fs, p => ∃ dx vs, H p = some (.ins C dx vs) ∧ RF K H μ fs vs
structure Rel (K : PySem.W.Frag) (μ : Mu) (h : CH) (H : Hp) : Prop where
  len : μ.l.length = h.length
  nd : μ.l.Nodup
  dj : ∀ p, μ.z p → p ∉ μ.l
  hz : ∀ p, μ.z p → ∃ o, H p = some o
  ob : ∀ (a : Nat) (o : CO) (p : Addr), h[a]? = some o → μ.l[a]? = some p → RO K H μ o p
/-- an operand on its way -/
def RX (K : PySem.W.Frag) (H : Hp) (μ : Mu) : CR → V → Prop
  | .v c, x => RV K H μ c x
  | .al xs, x => ∃ p vs, x = .ref p ∧ p ∉ μ ∧ H p = some (.lst vs) ∧ RVs K H μ xs vs
/-- a result of what began at H0, μ0 -/
def RR (K : PySem.W.Frag) (H0 : Hp) (H : Hp) (μ : Mu) : CR → V → Prop
  | .v c, x => RV K H μ c x
  | .al xs, x => ∃ p vs, x = .ref p ∧ H0 p = none ∧ p ∉ μ ∧ H p = some (.lst vs) ∧ RVs K H μ xs vs
section
variable {K : PySem.W.Frag} {H H0 H1 H' : Hp} {μ μ0 μ1 μ' : Mu} {h h1 : CH}
theorem Rel.has (r : Rel K μ h H) {p : Addr} (hp : p ∈ μ) : ∃ o, H p = some o := by
  rcases hp with hp | hp
  case inr => exact r.hz p hp
  obtain ⟨a, ha⟩ := List.mem_iff_getElem?.mp hp
  have hl := (List.getElem?_eq_some_iff.mp ha).1
  have hh : a < h.length := by rw [← r.len]; exact hl
  have q := r.ob a h[a] p (List.getElem?_eq_getElem hh) ha
  cases e : h[a] with
  | lst xs => rw [e] at q; obtain ⟨_, z, _⟩ := q; exact ⟨_, z⟩
  | fro xs => rw [e] at q; obtain ⟨_, _, z, _⟩ := q; exact ⟨_, z⟩
  | ins C fs => rw [e] at q; obtain ⟨_, _, z, _⟩ := q; exact ⟨_, z⟩
theorem Rel.at (r : Rel K μ h H) {a : Nat} {p : Addr} (ha : μ.l[a]? = some p) : ∃ o, h[a]? = some o ∧ RO K H μ o p := by
  have hl := (List.getElem?_eq_some_iff.mp ha).1
  have hh : a < h.length := by rw [← r.len]; exact hl
  exact ⟨_, List.getElem?_eq_getElem hh, r.ob a h[a] p (List.getElem?_eq_getElem hh) ha⟩
theorem Ext.none (e : Ext H0 μ0 H μ) (r : Rel K μ h H) {p : Addr} (n : H p = none) : H0 p = none := by
  cases q : H0 p with
  | none => rfl
  | some o =>
    by_cases hp : p ∈ μ0
    · obtain ⟨u, z⟩ := r.has (p := p) (by
        rcases hp with hp | hp
        · exact .inl (e.pre.subset hp)
        · exact .inr (e.pz p hp))
      rw [n] at z; cases z
    · rw [e.keep p o hp q] at n; cases n
theorem RX.ext (e : Ext H μ H' μ') : ∀ {r : CR} {x : V}, RX K H μ r x → RX K H' μ' r x
  | .v _, _, h => RV.ext e h
  | .al _, _, ⟨p, vs, ex, n, hp, r⟩ => ⟨p, vs, ex, (fun m => by
      have z := e.fresh p m n
      rw [hp] at z; cases z), e.keep p _ n hp, r.ext e⟩
theorem RR.rx : ∀ {r : CR} {x : V}, RR K H0 H μ r x → RX K H μ r x
  | .v _, _, h => h
  | .al _, _, ⟨p, vs, ex, _, n, hp, r⟩ => ⟨p, vs, ex, n, hp, r⟩
/-- a result of a later part -/
theorem RR.back (e : Ext H0 μ0 H1 μ1) (rel : Rel K μ1 h1 H1) : ∀ {r : CR} {x : V}, RR K H1 H μ r x → RR K H0 H μ r x
  | .v _, _, h => h
  | .al _, _, ⟨p, vs, ex, f, n, hp, r⟩ => ⟨p, vs, ex, e.none rel f, n, hp, r⟩
/-- a result carried through a later part -/
theorem RR.on (e : Ext H μ H' μ') : ∀ {r : CR} {x : V}, RR K H0 H μ r x → RR K H0 H' μ' r x
  | .v _, _, h => RV.ext e h
  | .al _, _, ⟨p, vs, ex, f, n, hp, r⟩ => ⟨p, vs, ex, f, (fun m => by
      have z := e.fresh p m n
      rw [hp] at z; cases z), e.keep p _ n hp, r.ext e⟩
theorem Rel.notMem (r : Rel K μ h H) {p : Addr} (n : H p = none) : p ∉ μ := fun m => by
  obtain ⟨o, e⟩ := r.has m
  rw [n] at e; cases e
/-- an object laid beside -/
theorem ext_laid {p : Addr} {o : HO} (n : H p = none) : Ext H μ (upd H p o) μ :=
  ⟨List.prefix_refl _, fun _ h => h, fun q m z => absurd m z, fun q u _ e => by rw [upd_ne (ne_of_none e n)]; exact e, fun q u _ e => by rw [upd_ne (ne_of_none e n)]; exact e⟩
theorem RO.ext (e : Ext H μ H' μ') (k : ∀ p, p ∈ μ → H' p = H p) : ∀ {o : CO} {p : Addr}, p ∈ μ → RO K H μ o p → RO K H' μ' o p
  | .lst _, p, m, ⟨vs, hp, r⟩ => ⟨vs, by rw [k p m]; exact hp, r.ext e⟩
  | .fro _, p, m, ⟨o, vs, hp, r⟩ => ⟨o, vs, by rw [k p m]; exact hp, r.ext e⟩
  | .ins _ _, p, m, ⟨dx, vs, hp, r⟩ => ⟨dx, vs, by rw [k p m]; exact hp, r.ext e⟩
theorem Rel.laid {p : Addr} {o : HO} (r : Rel K μ h H) (n : H p = none) : Rel K μ h (upd H p o) :=
  ⟨r.len, r.nd, r.dj, fun q z => by
    obtain ⟨u, e⟩ := r.hz q z
    exact ⟨u, by rw [upd_ne (ne_of_none e n)]; exact e⟩, fun a u q ha hq => RO.ext (ext_laid n) (fun b m => by
    obtain ⟨z, e⟩ := r.has m
    rw [upd_ne (ne_of_none e n)]) (.inl (List.mem_of_getElem? hq)) (r.ob a u q ha hq)⟩
/-- one address more -/
structure More (H : Hp) (μ μ' : Mu) (p : Addr) : Prop where
  le : Mu.Le μ μ'
  mem : ∀ q ∈ μ', q ∈ μ ∨ q = p
  np : ∀ vs o, H p ≠ some (.tup vs) ∧ H p ≠ some (.frz o (.tup vs))
mutual
theorem RV.more {p : Addr} (m : More H μ μ' p) : ∀ {x : CV} {v : V}, RV K H μ x v → RV K H μ' x v
  | _, _, .non => .non
  | _, _, .bl b => .bl b
  | _, _, .int i => .int i
  | _, _, .str h => .str h
  | _, _, .tup (p := q) h r => .tup (by
      rcases h with ⟨h, n⟩ | h
      · refine .inl ⟨h, fun mm => ?_⟩
        rcases m.mem _ mm with mm | mm
        · exact n mm
        · subst mm
          rcases h with e | ⟨o, e⟩
          · exact (m.np _ default).1 e
          · exact (m.np _ o).2 e
      · exact .inr h) (RVs.more m r)
  | _, _, .lst z h r => .lst (m.le.pz _ z) h (RVs.more m r)
  | _, _, .obj z h l r => .obj (m.le.pz _ z) h l (RVs.more m r)
  | _, _, .ref h => .ref (get_pre m.le.pre h)
theorem RVs.more {p : Addr} (m : More H μ μ' p) : ∀ {xs : List CV} {vs : List V}, RVs K H μ xs vs → RVs K H μ' xs vs
  | _, _, .nil => .nil
  | _, _, .cons h r => .cons (RV.more m h) (RVs.more m r)
end
theorem RF.more {p : Addr} (m : More H μ μ' p) : ∀ {xs : List (Str × CV)} {vs : List (Str × V)}, RF K H μ xs vs → RF K H μ' xs vs
  | _, _, .nil => .nil
  | _, _, .cons h r => .cons (RV.more m h) (RF.more m r)
theorem RO.more {p : Addr} (m : More H μ μ' p) : ∀ {o : CO} {q : Addr}, RO K H μ o q → RO K H μ' o q
  | .lst _, _, ⟨vs, hp, r⟩ => ⟨vs, hp, r.more m⟩
  | .fro _, _, ⟨o, vs, hp, r⟩ => ⟨o, vs, hp, r.more m⟩
  | .ins _ _, _, ⟨dx, vs, hp, r⟩ => ⟨dx, vs, hp, r.more m⟩
theorem lst_np {p : Addr} {vs : List V} (hp : H p = some (.lst vs)) : ∀ vs o, H p ≠ some (.tup vs) ∧ H p ≠ some (.frz o (.tup vs)) := fun vs o => by rw [hp]; exact ⟨fun z => (by cases z), fun z => (by cases z)⟩
theorem ins_np {p C dx : Addr} {vs : List (Str × V)} (hp : H p = some (.ins C dx vs)) : ∀ vs o, H p ≠ some (.tup vs) ∧ H p ≠ some (.frz o (.tup vs)) := fun vs o => by rw [hp]; exact ⟨fun z => (by cases z), fun z => (by cases z)⟩
theorem more_add {p : Addr} (np : ∀ vs o, H p ≠ some (.tup vs) ∧ H p ≠ some (.frz o (.tup vs))) : More H μ (μ.add p) p := ⟨Mu.le_add, fun _ h => Mu.mem_add h, np⟩
theorem more_frz {p : Addr} (np : ∀ vs o, H p ≠ some (.tup vs) ∧ H p ≠ some (.frz o (.tup vs))) : More H μ (μ.frz p) p := ⟨Mu.le_frz, fun _ h => Mu.mem_frz h, np⟩
/-- an object laid beside comes in -/
theorem Rel.push {p : Addr} {o : CO} (r : Rel K μ h H) (n : p ∉ μ) (np : ∀ vs o, H p ≠ some (.tup vs) ∧ H p ≠ some (.frz o (.tup vs))) (ho : RO K H (μ.add p) o p) (hs : ∃ o, H p = some o) : Rel K (μ.add p) (h ++ [o]) H := by
  refine ⟨by simp [Mu.add, r.len], ?_, fun q z m => ?_, r.hz, fun a u q ha hq => ?_⟩
  · show (μ.l ++ [p]).Nodup
    rw [List.nodup_append]
    exact ⟨r.nd, by simp, fun a ha b hb e => by simp at hb; subst hb; subst e; exact n (.inl ha)⟩
  · rcases List.mem_append.mp m with m | m
    · exact r.dj q z m
    · simp at m; subst m; exact n (.inr z)
  · change (μ.l ++ [p])[a]? = some q at hq
    by_cases hl : a < μ.l.length
    · rw [List.getElem?_append_left hl] at hq
      rw [List.getElem?_append_left (by rw [← r.len]; exact hl)] at ha
      exact (r.ob a u q ha hq).more (more_add np)
    · rw [List.getElem?_append_right (by omega)] at hq
      rw [List.getElem?_append_right (by rw [← r.len]; omega)] at ha
      have e0 : a - μ.l.length = 0 := by
        have := (List.getElem?_eq_some_iff.mp hq).1
        simp at this; omega
      rw [e0] at hq
      rw [← r.len, e0] at ha
      simp at hq ha
      subst hq ha
      exact ho
/-- a new list is taken in -/
theorem Rel.adopt {p : Addr} {xs : List CV} {vs : List V} (r : Rel K μ h H) (n : p ∉ μ) (hp : H p = some (.lst vs)) (rv : RVs K H μ xs vs) :
    Rel K (μ.add p) (h ++ [.lst xs]) H := r.push n (lst_np hp) ⟨vs, hp, rv.more (more_add (lst_np hp))⟩ ⟨_, hp⟩
/-- .. or stays as it is -/
theorem Rel.frz {p : Addr} (r : Rel K μ h H) (n : p ∉ μ) (hs : ∃ o, H p = some o) (np : ∀ vs o, H p ≠ some (.tup vs) ∧ H p ≠ some (.frz o (.tup vs))) : Rel K (μ.frz p) h H :=
  ⟨r.len, r.nd, fun q z m => by
    rcases z with z | rfl
    · exact r.dj q z m
    · exact n (.inl m), fun q z => by
    rcases z with z | rfl
    · exact r.hz q z
    · exact hs, fun a u q ha hq => (r.ob a u q ha hq).more (more_frz np)⟩
/-- an object of ours is changed -/
theorem ext_upd {p : Addr} {o : HO} (r : Rel K μ h H) (m : p ∈ μ.l) : Ext H μ (upd H p o) μ :=
  ⟨List.prefix_refl _, fun _ h => h, fun q m z => absurd m z, fun q u n e => by rw [upd_ne (fun z => n (by rw [z]; exact .inl m))]; exact e, fun q u z e => by rw [upd_ne (fun y => r.dj q z (by rw [y]; exact m))]; exact e⟩
theorem Rel.put {a : Nat} {p : Addr} {o : CO} {o' : HO} (r : Rel K μ h H) (ha : μ.l[a]? = some p) (ho : RO K (upd H p o') μ o p) : Rel K μ (h.set a o) (upd H p o') := by
  have m := List.mem_of_getElem? ha
  refine ⟨by rw [List.length_set]; exact r.len, r.nd, r.dj, fun q z => ?_, fun b u q hb hq => ?_⟩
  · obtain ⟨u, e⟩ := r.hz q z
    exact ⟨u, by rw [upd_ne (fun y => r.dj q z (by rw [y]; exact m))]; exact e⟩
  by_cases e : a = b
  · subst e
    rw [ha] at hq; cases hq
    have hl : a < h.length := by rw [← r.len]; exact (List.getElem?_eq_some_iff.mp ha).1
    rw [List.getElem?_set_self hl] at hb; cases hb
    exact ho
  · rw [List.getElem?_set_ne e] at hb
    have nq : q ≠ p := fun z => by
      subst z
      obtain ⟨h1, e1⟩ := List.getElem?_eq_some_iff.mp ha
      obtain ⟨h2, e2⟩ := List.getElem?_eq_some_iff.mp hq
      exact e ((List.getElem_inj r.nd).mp (e1.trans e2.symm))
    have x : Ext H μ (upd H p o') μ := ext_upd r m
    have q' := r.ob b u q hb hq
    cases u with
    | lst _ => obtain ⟨vs, z, rr⟩ := q'; exact ⟨vs, by rw [upd_ne nq]; exact z, rr.ext x⟩
    | fro _ => obtain ⟨o, vs, z, rr⟩ := q'; exact ⟨o, vs, by rw [upd_ne nq]; exact z, rr.ext x⟩
    | ins _ _ => obtain ⟨dx, vs, z, rr⟩ := q'; exact ⟨dx, vs, by rw [upd_ne nq]; exact z, rr.ext x⟩
end

/-! ### slots -/
structure RS (K : PySem.W.Frag) (H : Hp) (μ : Mu) (c : CSt) (σ : L2.St) : Prop where
  len : c.length = σ.length
  at_ : ∀ i x, gv c i = some x → ∃ v, σ[i]? = some (some v) ∧ RV K H μ x v
theorem RS.ext {K : PySem.W.Frag} {H H' : Hp} {μ μ' : Mu} {c : CSt} {σ : L2.St} (e : Ext H μ H' μ') (r : RS K H μ c σ) : RS K H' μ' c σ :=
  ⟨r.len, fun i x q => let ⟨v, a, b⟩ := r.at_ i x q; ⟨v, a, b.ext e⟩⟩
theorem sv_length : ∀ (c : CSt) (i : Nat) (x : CV), (sv c i x).length = c.length
  | [], _, _ => rfl
  | _ :: _, 0, _ => rfl
  | _ :: r, n + 1, x => by show (sv r n x).length + 1 = r.length + 1; rw [sv_length r n x]
theorem uv_length : ∀ (c : CSt) (i : Nat), (uv c i).length = c.length
  | [], _ => rfl
  | _ :: _, 0 => rfl
  | _ :: r, n + 1 => by show (uv r n).length + 1 = r.length + 1; rw [uv_length r n]
theorem gv_sv : ∀ (c : CSt) (i j : Nat) (x y : CV), gv (sv c i x) j = some y → (i = j ∧ x = y ∧ i < c.length) ∨ (i ≠ j ∧ gv c j = some y)
  | [], _, _, _, _, e => by cases e
  | z :: r, 0, 0, x, y, e => .inl ⟨rfl, Option.some.inj e, Nat.zero_lt_succ _⟩
  | z :: r, 0, j + 1, x, y, e => .inr ⟨(fun q => nomatch q), e⟩
  | z :: r, i + 1, 0, x, y, e => .inr ⟨(fun q => nomatch q), e⟩
  | z :: r, i + 1, j + 1, x, y, e => by
    rcases gv_sv r i j x y e with ⟨a, b, c⟩ | ⟨a, b⟩
    · exact .inl ⟨by rw [a], b, Nat.succ_lt_succ c⟩
    · exact .inr ⟨fun q => a (Nat.succ.inj q), b⟩
theorem gv_uv : ∀ (c : CSt) (i j : Nat) (y : CV), gv (uv c i) j = some y → i ≠ j ∧ gv c j = some y
  | [], _, _, _, e => by cases e
  | z :: r, 0, 0, y, e => by cases e
  | z :: r, 0, j + 1, y, e => ⟨(fun q => nomatch q), e⟩
  | z :: r, i + 1, 0, y, e => ⟨(fun q => nomatch q), e⟩
  | z :: r, i + 1, j + 1, y, e => by
    obtain ⟨a, b⟩ := gv_uv r i j y e
    exact ⟨fun q => a (Nat.succ.inj q), b⟩
theorem RS.put {K : PySem.W.Frag} {H : Hp} {μ : Mu} {c : CSt} {σ : L2.St} {i : Nat} {x : CV} {v : V} (r : RS K H μ c σ) (h : RV K H μ x v) : RS K H μ (sv c i x) (σ.set i (some v)) := by
  refine ⟨by rw [sv_length, List.length_set]; exact r.len, fun j y e => ?_⟩
  rcases gv_sv c i j x y e with ⟨rfl, rfl, hl⟩ | ⟨ne, e⟩
  · exact ⟨v, List.getElem?_set_self (by rw [← r.len]; exact hl), h⟩
  · obtain ⟨u, a, b⟩ := r.at_ j y e
    exact ⟨u, by rw [List.getElem?_set_ne ne]; exact a, b⟩
theorem RS.gone {K : PySem.W.Frag} {H : Hp} {μ : Mu} {c : CSt} {σ : L2.St} {i : Nat} (r : RS K H μ c σ) : RS K H μ (uv c i) (σ.set i none) := by
  refine ⟨by rw [uv_length, List.length_set]; exact r.len, fun j y e => ?_⟩
  obtain ⟨ne, e⟩ := gv_uv c i j y e
  obtain ⟨u, a, b⟩ := r.at_ j y e
  exact ⟨u, by rw [List.getElem?_set_ne ne]; exact a, b⟩
theorem RS.wipe {K : PySem.W.Frag} {H : Hp} {μ : Mu} {c : CSt} {σ : L2.St} (r : RS K H μ c σ) : ∀ vs : List Nat, RS K H μ (uvs c vs) (L2.wipe σ vs)
  | [] => r
  | _ :: vs => (RS.wipe r vs).gone

/-! ### readings -/
def Post (K : PySem.W.Frag) (H : Hp) (μ : Mu) (k : WQ) (Q : VK) : Prop := ∀ r h', k r h' → ∀ μ' H' x, Ext H μ H' μ' → Rel K μ' h' H' → RR K H H' μ' r x → Q x H'
def tE (K : PySem.W.Frag) (w : CSt → CH → WQ → WX' → Prop) : TE := fun σ H Q => ∃ c h μ k E, RS K H μ c σ ∧ Rel K μ h H ∧ w c h k E ∧ (∀ x h', ¬ E x h') ∧ Post K H μ k Q
def PostB (K : PySem.W.Frag) (H : Hp) (μ : Mu) (k : Bool → CH → Prop) (Q : Bool → Hp → Prop) : Prop := ∀ b h', k b h' → ∀ μ' H', Ext H μ H' μ' → Rel K μ' h' H' → Q b H'
def tB (K : PySem.W.Frag) (w : CSt → CH → (Bool → CH → Prop) → WX' → Prop) : TT := fun σ H Q => ∃ c h μ k E, RS K H μ c σ ∧ Rel K μ h H ∧ w c h k E ∧ (∀ x h', ¬ E x h') ∧ PostB K H μ k Q
inductive RRs (K : PySem.W.Frag) (H0 : Hp) (H : Hp) (μ : Mu) : List CR → List V → Prop
  | nil : RRs K H0 H μ [] []
  | cons {r : CR} {x : V} {rs : List CR} {xs : List V} (h : RR K H0 H μ r x) (t : RRs K H0 H μ rs xs) (ap : ∀ ys, r = .al ys → ∀ (i : Nat) (ys' : List CV), rs[i]? = some (.al ys') → xs[i]? ≠ some x) : RRs K H0 H μ (r :: rs) (x :: xs)
end G

namespace G
open PySem PySem.Spec PyProof.Rows L2
theorem tuple_mul1 (l : Addr) (items : Array Value) (n : Nat) (dd : Option Addr) (sl : Array (Option Value)) (x : Int) (u : Tok) (c0 : (decide (x < -(2 ^ 63)) || decide (x ≥ 2 ^ 63)) = false) (c1 : (items.isEmpty || x == 1) = true) :
    Meets (Builtin.«tuple.__mul__» ⟨[.ref l, .int x u], []⟩) (fun _ R s => s.heap.get? l = some { cls := .type "tuple", dict := dd, data := .seq items n, slots := sl } ∧ R (.ok (.ret (Value.ref l))) s) :=
  .of_wp fun prog w A R s h => by
    obtain ⟨hp, g, d, tk, os⟩ := s
    obtain ⟨hl, h⟩ := h
    have f1 := AutoSeq1.idx_int
    wp_walk using wpAny_loadPart' hl
    refine wpAny_ite_false (decide_eq_false (by rw [c0]; exact Bool.false_ne_true)) ?_
    wp_walk using wpAny_loadPart' hl
    exact ⟨_, rfl, h⟩
def rRep1 (K : PySem.W.Frag) : R2 := fun x y H Q => ∃ l xs, x = .ref l ∧ y = .int 1 ∧ SqT K H l xs ∧ Q (.ref l) H
theorem op_rep1 {X : Cx} : OpR X (binaryOp .Mult) (rRep1 X.K) := by
  intro pins s σ H x y v u Q I rx ry h
  obtain ⟨l, xs, rfl, rfl, hT, q⟩ := h
  cases rx
  obtain ⟨t, rfl⟩ := ry
  obtain ⟨its, r, ⟨⟨cls, dd, data, sl⟩, ho, hc, n, hd⟩, hs⟩ := I.tuple hT
  simp only at hc hd
  subst hc hd
  refine wpAny_binaryOp_repeat_ref (T := "tuple") (U := "int") (by decide) ⟨_, ho, rfl⟩ (fun s' => typeIs_int s' 1 t) noFill_tuple_mul F.fills_int_mul F.slot_int_rmul repeat_tuple F.slot_int_index.lookup
    (call_meets F.slot_int_rmul (typeIs_int s 1 t) F.entry_int_rmul (F.args_int_rmul_2 _ _) (int_rmul_tuple 1 t l its.toArray n dd sl)
      ⟨ho, rfl, ⟨_, ho, rfl⟩, call_meets F.slot_tuple_mul ⟨_, ho, rfl⟩ F.entry_tuple_mul (F.args_tuple_mul_2 _ _) (tuple_mul1 l its.toArray n dd sl 1 t (by decide) (by simp)) ⟨ho, ?_⟩⟩)
  exact ⟨.ref l, H, I, rfl, q⟩
theorem tuple_mul0 (l : Addr) (items : Array Value) (n : Nat) (dd : Option Addr) (sl : Array (Option Value)) (x : Int) (u : Tok) (c0 : (decide (x < -(2 ^ 63)) || decide (x ≥ 2 ^ 63)) = false) (c1 : (items.isEmpty || x == 1) = false) (c2 : (decide (x ≤ 0) || items.isEmpty) = true) :
    Meets (Builtin.«tuple.__mul__» ⟨[.ref l, .int x u], []⟩) (fun _ R s => s.heap.get? l = some { cls := .type "tuple", dict := dd, data := .seq items n, slots := sl } ∧
      R (.ok (.ret (Value.ref s.heap.objs.size))) { s with heap := s.heap.push { cls := Value.type "tuple", data := Data.seq #[] }, toks := s.toks }) :=
  .of_wp fun prog w A R s h => by
    obtain ⟨hp, g, d, tk, os⟩ := s
    obtain ⟨hl, h⟩ := h
    have f1 := AutoSeq1.idx_int
    wp_walk using wpAny_loadPart' hl
    refine wpAny_ite_false (decide_eq_false (by rw [c0]; exact Bool.false_ne_true)) ?_
    wp_walk using wpAny_loadPart' hl
    repeat (first
      | (refine wpAny_ite_false (decide_eq_false (by rw [c1]; exact Bool.false_ne_true)) ?_; wp_walk using wpAny_loadPart' hl)
      | (refine wpAny_ite_true (decide_eq_true (by rw [c2])) ?_; wp_walk using wpAny_loadPart' hl))
    exact ⟨_, rfl, h⟩
def rRep0 (K : PySem.W.Frag) : R2 := fun x y H Q => ∃ l k xs, x = .ref l ∧ y = .int k ∧ SqT K H l xs ∧ xs ≠ [] ∧ -1000 ≤ k ∧ k ≤ 0 ∧ ∀ p, H p = none → Q (.ref p) (upd H p (.tup []))
theorem op_rep0 {X : Cx} : OpR X (binaryOp .Mult) (rRep0 X.K) := by
  intro pins s σ H x y v u Q I rx ry h
  obtain ⟨l, k, xs, rfl, rfl, hT, hne, k0, k1, q⟩ := h
  cases rx
  obtain ⟨t, rfl⟩ := ry
  obtain ⟨its, r, ⟨⟨cls, dd, data, sl⟩, ho, hc, n, hd⟩, hs⟩ := I.tuple hT
  simp only at hc hd
  subst hc hd
  have hle : its.length = xs.length := r.length.symm
  have hn : its ≠ [] := fun e => hne (by
    rw [e] at hle
    exact List.eq_nil_of_length_eq_zero hle.symm)
  have hi : its.toArray.isEmpty = false := by
    cases its with
    | nil => exact absurd rfl hn
    | cons a b => rfl
  have c0 : (decide (k < -(2 ^ 63)) || decide (k ≥ 2 ^ 63)) = false := by
    rw [decide_eq_false (by omega), decide_eq_false (by omega)] <;> rfl
  have c1 : (its.toArray.isEmpty || k == 1) = false := by
    rw [hi, Bool.false_or]
    exact beq_eq_false_iff_ne.mpr (by omega)
  have c2 : (decide (k ≤ 0) || its.toArray.isEmpty) = true := by
    rw [decide_eq_true k1, Bool.true_or]
  refine wpAny_binaryOp_repeat_ref (T := "tuple") (U := "int") (by decide) ⟨_, ho, rfl⟩ (fun s' => typeIs_int s' k t) noFill_tuple_mul F.fills_int_mul F.slot_int_rmul repeat_tuple F.slot_int_index.lookup
    (call_meets F.slot_int_rmul (typeIs_int s k t) F.entry_int_rmul (F.args_int_rmul_2 _ _) (int_rmul_tuple k t l its.toArray n dd sl)
      ⟨ho, rfl, ⟨_, ho, rfl⟩, call_meets F.slot_tuple_mul ⟨_, ho, rfl⟩ F.entry_tuple_mul (F.args_tuple_mul_2 _ _) (tuple_mul0 l its.toArray n dd sl k t c0 c1 c2) ⟨ho, ?_⟩⟩)
  refine ⟨.ref s.heap.objs.size, _, I.laid (t' := s.toks) (o := .tup []) (fun b ob q => Heap.get?_push_of_some _ q) (Nat.le_refl _) ?_, rfl, q _ (I.hok.fresh (Nat.le_refl _))⟩
  exact ⟨by simp, _, .nil, IsTup.new _ _⟩
end G

namespace G
open PySem PySem.Spec PyProof.Rows L2

theorem PE.imp {X : Cx} {e : Expr} {t t' : TE} (h : PE X e t) (i : ∀ σ H Q, t' σ H Q → t σ H Q) : PE X e t' := ⟨fun pins s σ H Q I q => h.run pins s σ H Q I (i σ H Q q)⟩
theorem PT.imp {X : Cx} {e : Expr} {t t' : TT} (h : PT X e t) (i : ∀ σ H Q, t' σ H Q → t σ H Q) : PT X e t' := ⟨fun pins s σ H Q I q => h.run pins s σ H Q I (i σ H Q q)⟩
theorem PW.imp {X : Cx} {e : Expr} {t t' : TT} (h : PW X e t) (i : ∀ σ H Q, t' σ H Q → t σ H Q) : PW X e t' := ⟨fun wh pins s σ H Q I q => h.run wh pins s σ H Q I (i σ H Q q)⟩
theorem PA.imp {X : Cx} {e : List Expr} {t t' : TA} (h : PA X e t) (i : ∀ σ H Q, t' σ H Q → t σ H Q) : PA X e t' := ⟨fun pos pins s σ H Q I q => h.run pos pins s σ H Q I (i σ H Q q)⟩
theorem PS.imp {X : Cx} {st : Stmt} {t t' : TS} (h : PS X st t) (i : ∀ D σ H, t' D σ H → t D σ H) : PS X st t' := ⟨fun pins s σ H D I q => h.run pins s σ H D I (i D σ H q)⟩
theorem PSs.imp {X : Cx} {st : List Stmt} {t t' : TS} (h : PSs X st t) (i : ∀ D σ H, t' D σ H → t D σ H) : PSs X st t' := ⟨fun pins s σ H D I q => h.run pins s σ H D I (i D σ H q)⟩

section
variable {X : Cx} {K : PySem.W.Frag} {H H0 H1 H' : Hp} {μ μ0 μ1 μ' : Mu} {h h1 : CH}
/-- a post met at once -/
theorem Post.v {k : WQ} {Q : VK} {c : CV} {x : V} (p : Post K H μ k Q) (w : k (.v c) h) (rel : Rel K μ h H) (r : RV K H μ c x) : Q x H := p _ _ w μ H x Ext.refl rel r
theorem Post.int {k : WQ} {Q : VK} {i : Int} (p : Post K H μ k Q) (w : k (.v (.int i)) h) (rel : Rel K μ h H) : Q (.int i) H := p.v w rel (.int i)
theorem Post.bl {k : WQ} {Q : VK} {i : Bool} (p : Post K H μ k Q) (w : k (.v (.bl i)) h) (rel : Rel K μ h H) : Q (.bl i) H := p.v w rel (.bl i)
/-- a new tuple -/
theorem Post.tup {k : WQ} {Q : VK} {xs : List CV} {vs : List V} {p : Addr} (ps : Post K H μ k Q) (w : k (.v (.tup xs)) h) (rel : Rel K μ h H) (r : RVs K H μ xs vs) (n : H p = none) : Q (.ref p) (upd H p (.tup vs)) :=
  ps _ _ w μ _ _ (ext_laid n) (rel.laid n) (.tup (.inl ⟨.inl upd_same, rel.notMem n⟩) (r.ext (ext_laid n)))
/-- a new list -/
theorem Post.al {k : WQ} {Q : VK} {xs : List CV} {vs : List V} {p : Addr} (ps : Post K H μ k Q) (w : k (.al xs) h) (rel : Rel K μ h H) (r : RVs K H μ xs vs) (n : H p = none) : Q (.ref p) (upd H p (.lst vs)) :=
  ps _ _ w μ _ _ (ext_laid n) (rel.laid n) ⟨p, vs, rfl, n, rel.notMem n, upd_same, r.ext (ext_laid n)⟩
theorem Post.on {k : WQ} {Q : VK} (p : Post K H μ k Q) (e : Ext H μ H1 μ1) (rel : Rel K μ1 h1 H1) : Post K H1 μ1 k Q := fun r h' w μ' H' x e' rel' rr => p r h' w μ' H' x (e.trans e') rel' (rr.back e rel)
theorem PostB.on {k : Bool → CH → Prop} {Q : Bool → Hp → Prop} (p : PostB K H μ k Q) (e : Ext H μ H1 μ1) : PostB K H1 μ1 k Q := fun r h' w μ' H' e' rel' => p r h' w μ' H' (e.trans e') rel'

/-- list-like: what the abstract heap says -/
theorem lsOf_sq {r : CR} {x : V} {xs : List CV} (rel : Rel K μ h H) (rx : RX K H μ r x) (e : lsOf r h = some xs) : ∃ p vs, x = .ref p ∧ SqL K H p vs ∧ RVs K H μ xs vs ∧ (H p = some (.lst vs) ∨ ∃ o, H p = some (.frz o (.lst vs))) := by
  cases r with
  | al ys =>
    cases e
    obtain ⟨p, vs, ex, n, hp, r⟩ := rx
    exact ⟨p, vs, ex, SqL.of hp, r, .inl hp⟩
  | v c =>
    cases c <;> try (simp [lsOf] at e; done)
    · cases e
      cases rx with
      | lst z hp r => exact ⟨_, _, rfl, SqL.of hp, r, .inl hp⟩
    rename_i a
    cases rx with
    | ref ha =>
      rename_i p
      obtain ⟨o, ho, ro⟩ := rel.at ha
      simp only [lsOf, ho] at e
      cases o with
      | lst ys =>
        cases e
        obtain ⟨vs, hp, r⟩ := ro
        exact ⟨p, vs, rfl, SqL.of hp, r, .inl hp⟩
      | fro ys =>
        cases e
        obtain ⟨o, vs, hp, r⟩ := ro
        exact ⟨p, vs, rfl, .inl (.inr ⟨o, hp⟩), r, .inr ⟨o, hp⟩⟩
      | ins C fs => cases e
theorem tpOf_sq {r : CR} {x : V} {xs : List CV} (rx : RX K H μ r x) (e : tpOf r = some xs) : ∃ p vs, x = .ref p ∧ RT K H μ p vs ∧ RVs K H μ xs vs ∧ r = .v (.tup xs) := by
  cases r with
  | al ys => cases e
  | v c =>
    cases c <;> try (simp [tpOf] at e; done)
    cases e
    cases rx with
    | tup a b => exact ⟨_, _, rfl, a, b, rfl⟩
theorem sqOf_sq {r : CR} {x : V} {xs : List CV} (rel : Rel K μ h H) (rx : RX K H μ r x) (e : sqOf r h = some xs) : ∃ p vs, x = .ref p ∧ (SqL K H p vs ∨ SqT K H p vs) ∧ RVs K H μ xs vs ∧ (tpOf r = some xs ∧ RT K H μ p vs ∨ lsOf r h = some xs ∧ SqL K H p vs) := by
  unfold sqOf at e
  cases q : tpOf r with
  | some ys =>
    rw [q] at e
    cases e
    obtain ⟨p, vs, ex, a, b, _⟩ := tpOf_sq rx q
    exact ⟨p, vs, ex, .inr a.sq, b, .inl ⟨rfl, a⟩⟩
  | none =>
    rw [q] at e
    obtain ⟨p, vs, ex, a, b, _⟩ := lsOf_sq rel rx e
    exact ⟨p, vs, ex, .inl a, b, .inr ⟨e, a⟩⟩
theorem lsM_of {r : CR} {x : V} {xs : List CV} (rel : Rel K μ h H) (rx : RX K H μ r x) (e : lsM r h = some xs) : ∃ p vs, x = .ref p ∧ H p = some (.lst vs) ∧ RVs K H μ xs vs := by
  cases r with
  | al ys =>
    cases e
    obtain ⟨p, vs, ex, n, hp, r⟩ := rx
    exact ⟨p, vs, ex, hp, r⟩
  | v c =>
    cases c <;> try (simp [lsM] at e; done)
    · cases e
      cases rx with
      | lst z hp r => exact ⟨_, _, rfl, hp, r⟩
    rename_i a
    cases rx with
    | ref ha =>
      rename_i p
      obtain ⟨o, ho, ro⟩ := rel.at ha
      simp only [lsM, ho] at e
      cases o with
      | lst ys =>
        cases e
        obtain ⟨vs, hp, r⟩ := ro
        exact ⟨p, vs, rfl, hp, r⟩
      | fro ys => cases e
      | ins C fs => cases e

/-- two values in, by R on plain results -/
def rS (K : PySem.W.Frag) (R : CR → CR → CH → WQ → Prop) : R2 := fun x y H Q => ∃ h μ a b k, Rel K μ h H ∧ RX K H μ a x ∧ RX K H μ b y ∧ R a b h k ∧ Post K H μ k Q
theorem OpR.imp {f : Value → Value → Sem Value} {r r' : R2} (h : OpR X f r) (i : ∀ x y H Q, r' x y H Q → r x y H Q) : OpR X f r' := fun pins s σ H x y v u Q I rx ry q => h pins s σ H x y v u Q I rx ry (i x y H Q q)
theorem rx_int {i : Int} {x : V} (r : RX K H μ (.v (.int i)) x) : x = .int i := by cases r; rfl
theorem rx_bl {i : Bool} {x : V} (r : RX K H μ (.v (.bl i)) x) : x = .bl i := by cases r; rfl
theorem rx_non {x : V} (r : RX K H μ (.v .non) x) : x = .non := by cases r; rfl

theorem binL_cases {op : Operator} {a b : CR} {k : WQ} (w : binL op a b h k) : ∃ xs ys, lsM a h = some xs ∧ lsM b h = some ys ∧ op = .Add ∧ xs.length + ys.length ≤ sizeLine ∧ k (.al (xs ++ ys)) h := by
  unfold binL at w
  split at w
  · exact ⟨_, _, ‹_›, ‹_›, w⟩
  · exact False.elim w
theorem bin_cases {op : Operator} {a b : CR} {k : WQ} (w : binR op a b h k) :
    (∃ i j, a = .v (.int i) ∧ b = .v (.int j) ∧ binI op i j fun n => k (.v (.int n)) h) ∨
    (∃ xs ys, a = .v (.tup xs) ∧ b = .v (.tup ys) ∧ op = .Add ∧ xs.length + ys.length ≤ sizeLine ∧ k (.v (.tup (xs ++ ys))) h) ∨
    (∃ xs n, a = .v (.tup xs) ∧ b = .v (.int n) ∧ op = .Mult ∧ 0 < xs.length ∧ xs.length ≤ 1000 ∧ -1000 ≤ n ∧ n ≤ 1000 ∧ k (.v (.tup (List.replicate n.toNat xs).flatten)) h) ∨
    (∃ xs ys, lsM a h = some xs ∧ lsM b h = some ys ∧ op = .Add ∧ xs.length + ys.length ≤ sizeLine ∧ k (.al (xs ++ ys)) h) ∨
    (∃ xs n, lsM a h = some xs ∧ b = .v (.int n) ∧ op = .Mult ∧ -(2 ^ 63) ≤ n ∧ n < 2 ^ 63 ∧ xs.length * n.toNat ≤ sizeLine ∧ k (.al (List.replicate n.toNat xs).flatten) h) := by
  unfold binR at w
  split at w
  · exact .inl ⟨_, _, rfl, rfl, w⟩
  · exact .inr (.inl ⟨_, _, rfl, rfl, w⟩)
  · exact .inr (.inr (.inl ⟨_, _, rfl, rfl, w⟩))
  · exact .inr (.inr (.inr (.inr ⟨_, _, rfl, rfl, w⟩)))
  · exact .inr (.inr (.inr (.inr ⟨_, _, rfl, rfl, w⟩)))
  · split at w
    · exact .inr (.inr (.inr (.inr ⟨_, _, ‹_›, rfl, w⟩)))
    · exact False.elim w
  · exact .inr (.inr (.inr (.inl (binL_cases w))))
  · exact .inr (.inr (.inr (.inl (binL_cases w))))
  · exact .inr (.inr (.inr (.inl (binL_cases w))))
  · exact False.elim w
theorem op_bin (op : Operator) : OpR X (binaryOp op) (rS X.K (binR op)) := by
  intro pins s σ H x y v u Q I rx ry q
  obtain ⟨h, μ, a, b, k, rel, ra, rb, w, ps⟩ := q
  rcases bin_cases w with ⟨i, j, rfl, rfl, w⟩ | ⟨xs, ys, rfl, rfl, rfl, hz, w⟩ | ⟨xs, n, rfl, rfl, rfl, z0, z1, n0, n1, w⟩ | ⟨xs, ys, ea, eb, rfl, hz, w⟩ | ⟨xs, n, ea, rfl, rfl, h1, h2, hz, w⟩
  · have e1 := rx_int ra
    have e2 := rx_int rb
    subst e1 e2
    cases op <;> try exact False.elim w
    · exact op_add pins s σ H _ _ v u Q I rx ry ⟨i, j, rfl, rfl, ps.int w rel⟩
    · exact op_sub pins s σ H _ _ v u Q I rx ry ⟨i, j, rfl, rfl, ps.int w rel⟩
    · rcases w.1 with c | c
      · exact op_mul pins s σ H _ _ v u Q I rx ry ⟨i, j, rfl, rfl, c, ps.int w.2 rel⟩
      · exact op_mulW pins s σ H _ _ v u Q I rx ry ⟨i, j, rfl, rfl, wide_mul c.1 c.2 (by decide) (by decide) (by decide), ps.int w.2 rel⟩
    · exact op_mod pins s σ H _ _ v u Q I rx ry ⟨i, j, rfl, rfl, w.1, ps.int w.2 rel⟩
    · exact op_pow pins s σ H _ _ v u Q I rx ry ⟨i, j, rfl, rfl, w.1, ps.int w.2 rel⟩
    · exact op_fdivW pins s σ H _ _ v u Q I rx ry ⟨i, j, rfl, rfl, CDv.wide w.1, ps.int w.2 rel⟩
  · obtain ⟨p, vs, rfl, ta, va, _⟩ := tpOf_sq (xs := xs) ra rfl
    obtain ⟨p2, vs2, rfl, tb, vb, _⟩ := tpOf_sq (xs := ys) rb rfl
    refine op_catA pins s σ H _ _ v u Q I rx ry ⟨p, p2, vs, vs2, rfl, rfl, ta.sq, tb.sq, by rw [← va.length, ← vb.length]; exact hz, fun e => ?_, fun _ e => ?_, fun _ _ q n => ps.tup w rel (va.append vb) n⟩
    · subst e
      cases va
      exact ps.v w rel rb
    · subst e
      cases vb
      rw [List.append_nil] at w
      exact ps.v w rel ra
  · obtain ⟨p, vs, rfl, t, va, _⟩ := tpOf_sq (xs := xs) ra rfl
    have e2 := rx_int rb
    subst e2
    have hl := va.length
    rcases (show n ≤ 0 ∨ n = 1 ∨ 2 ≤ n by omega) with nz | rfl | n2
    · have e0 : (List.replicate n.toNat xs).flatten = [] := by rw [show n.toNat = 0 by omega]; rfl
      rw [e0] at w
      exact op_rep0 pins s σ H _ _ v u Q I rx ry ⟨p, n, vs, rfl, rfl, t.sq, fun e => by (rw [e] at hl; have hz : xs.length = 0 := hl; omega), n0, nz, fun q nq => ps.tup w rel .nil nq⟩
    · refine op_rep1 pins s σ H _ _ v u Q I rx ry ⟨p, vs, rfl, rfl, t.sq, ?_⟩
      have e1 : (List.replicate (1 : Int).toNat xs).flatten = xs := by simp
      rw [e1] at w
      exact ps.v w rel ra
    · exact op_repT pins s σ H _ _ v u Q I rx ry ⟨p, n, vs, rfl, rfl, t.sq, fun e => by (rw [e] at hl; have hz : xs.length = 0 := hl; omega), n2, n1, by omega, fun q nq => ps.tup w rel (va.rep _) nq⟩
  · obtain ⟨p, vs, rfl, ha, va⟩ := lsM_of rel ra ea
    obtain ⟨p2, vs2, rfl, hb, vb⟩ := lsM_of rel rb eb
    exact op_cat pins s σ H _ _ v u Q I rx ry ⟨p, p2, vs, vs2, rfl, rfl, ha, hb, by rw [← va.length, ← vb.length]; exact hz, fun q n => ps.al w rel (va.append vb) n⟩
  · obtain ⟨p, vs, rfl, ha, va⟩ := lsM_of rel ra ea
    have e2 := rx_int rb
    subst e2
    exact op_rep pins s σ H _ _ v u Q I rx ry ⟨p, n, vs, rfl, rfl, ha, h1, h2, by rw [← va.length]; exact hz, fun q nq => ps.al w rel (va.rep _) nq⟩
end
end G

namespace G
open PySem PySem.Spec PyProof.Rows L2
section
variable {X : Cx} {K : PySem.W.Frag} {H H0 H1 H' : Hp} {μ μ0 μ1 μ' : Mu} {h h1 : CH}
mutual
theorem datV_dp (rel : Rel K μ h H) : ∀ (n : Nat) (c : CV) (x : V) (d : PyData), RV K H μ c x → datV h n c = some d → Dp K H x d
  | _, .non, _, _, .non, e => by unfold datV at e; cases e; exact .non
  | _, .bl b, _, _, .bl _, e => by unfold datV at e; cases e; exact .bl b
  | _, .int i, _, _, .int _, e => by unfold datV at e; cases e; exact .int i
  | _, .str s, _, _, .str _, e => by unfold datV at e; cases e; exact .str s
  | 0, .tup _, _, _, _, e => by unfold datV at e; cases e
  | 0, .lst _, _, _, _, e => by unfold datV at e; cases e
  | 0, .obj _ _ _, _, _, _, e => by unfold datV at e; cases e
  | n + 1, .obj _ _ _, _, _, _, e => by unfold datV at e; cases e
  | n + 1, .lst xs, _, _, .lst z hp r, e => by
    unfold datV at e
    cases q : datVs h n xs with
    | none => rw [q] at e; cases e
    | some ds =>
      rw [q] at e
      cases e
      exact .lst (SqL.of hp) (datVs_dp rel n xs _ ds r q)
  | 0, .ref _, _, _, _, e => by unfold datV at e; cases e
  | n + 1, .tup xs, _, _, .tup t r, e => by
    unfold datV at e
    cases q : datVs h n xs with
    | none => rw [q] at e; cases e
    | some ds =>
      rw [q] at e
      cases e
      exact .tup t.sq (datVs_dp rel n xs _ ds r q)
  | n + 1, .ref a, _, _, .ref ha, e => by
    unfold datV at e
    obtain ⟨o, ho, ro⟩ := rel.at ha
    rw [ho] at e
    cases o with
    | lst ys =>
      obtain ⟨vs, hp, r⟩ := ro
      cases q : datVs h n ys with
      | none => simp [q] at e
      | some ds =>
        simp [q] at e
        subst e
        exact .lst (SqL.of hp) (datVs_dp rel n ys _ ds r q)
    | fro ys =>
      obtain ⟨o, vs, hp, r⟩ := ro
      cases q : datVs h n ys with
      | none => simp [q] at e
      | some ds =>
        simp [q] at e
        subst e
        exact .lst (.inl (.inr ⟨o, hp⟩)) (datVs_dp rel n ys _ ds r q)
    | ins C fs => cases e
theorem datVs_dp (rel : Rel K μ h H) : ∀ (n : Nat) (xs : List CV) (vs : List V) (ds : List PyData), RVs K H μ xs vs → datVs h n xs = some ds → DpAll K H vs ds
  | _, [], _, _, .nil, e => by unfold datVs at e; cases e; exact .nil
  | n, x :: xs, _, _, .cons a r, e => by
    unfold datVs at e
    cases q1 : datV h n x with
    | none => simp [q1] at e
    | some d =>
      cases q2 : datVs h n xs with
      | none => simp [q1, q2] at e
      | some ds =>
        simp [q1, q2] at e
        subst e
        exact .cons (datV_dp rel n x _ d a q1) (datVs_dp rel n xs _ ds r q2)
end
theorem datR_dp (rel : Rel K μ h H) {r : CR} {x : V} {d : PyData} (rx : RX K H μ r x) (e : datR h r = some d) : Dp K H x d := by
  cases r with
  | v c => exact datV_dp rel 8 c x d rx e
  | al xs =>
    obtain ⟨p, vs, rfl, n, hp, r⟩ := rx
    change (datVs h 8 xs).map PyData.list = some d at e
    cases q : datVs h 8 xs with
    | none => rw [q] at e; cases e
    | some ds =>
      rw [q] at e; cases e
      exact .lst (SqL.of hp) (datVs_dp rel 8 xs _ ds r q)
theorem eqR_cases {a b : CR} {k : Bool → Prop} (w : eqR a b h k) : ∃ d e, datR h a = some d ∧ datR h b = some e ∧ (SeqAt.shaped d = true ∧ SeqAt.shaped e = true) ∧ k (PyData.eqv d e) := by
  unfold eqR at w
  split at w
  · exact ⟨_, _, ‹_›, ‹_›, w⟩
  · exact False.elim w
theorem inR_cases {a b : CR} {k : Bool → Prop} (w : inR a b h k) : ∃ d ys es, datR h a = some d ∧ sqOf b h = some ys ∧ datVs h 8 ys = some es ∧ (SeqAt.shaped d = true ∧ SeqAt.shaped (.list es) = true) ∧ k (es.any fun z => PyData.eqv z d) := by
  unfold inR at w
  split at w
  · rename_i d es e1 e2
    cases q : sqOf b h with
    | none => rw [q] at e2; cases e2
    | some ys =>
      rw [q] at e2
      exact ⟨_, ys, _, e1, rfl, e2, w⟩
  · exact False.elim w
theorem ordR_cases {p : Int → Int → Bool} {a b : CR} {k : Bool → Prop} (w : ordR p a b k) : ∃ i j, a = .v (.int i) ∧ b = .v (.int j) ∧ k (p i j) := by
  unfold ordR at w
  split at w
  · exact ⟨_, _, rfl, rfl, w⟩
  · exact False.elim w
/-- x in a list or a tuple, deep -/
theorem in_run {pins : List (Addr × Obj)} {s : Shared} {σ : L2.St} {x y : V} {v u : Value} {Q : VK} (hu : X.A.units + 65 < cLine) (I : Inv X pins σ H s) (rx : RelV x v) (ry : RelV y u) {ys : List CV} {es : List PyData} {d : PyData} {b : CR}
    (rel : Rel X.K μ h H) (rb : RX X.K H μ b y) (e1 : sqOf b h = some ys) (e2 : datVs h 8 ys = some es) (hd : Dp X.K H x d) (sd : SeqAt.shaped d = true) (se : SeqAt.shaped (.list es) = true) :
    (Q (.bl (es.any fun z => PyData.eqv z d)) H → wpAny (model X.prog X.w) X.A (compareOp .In v u) (EP X pins σ Q) X.xe s) ∧ (Q (.bl (!es.any fun z => PyData.eqv z d)) H → wpAny (model X.prog X.w) X.A (compareOp .NotIn v u) (EP X pins σ Q) X.xe s) := by
  obtain ⟨p, vs, rfl, sq, rv, _⟩ := sqOf_sq rel rb e1
  have da := datVs_dp rel 8 ys vs es rv e2
  obtain ⟨as, r1⟩ := Dp.reads I d x v hd rx
  have cl := SeqAt.canLay_of_shaped se
  have rm : X.A.units + 1 + min (PyData.depthAll es) d.depth < cLine := room_in_shaped sd hu
  rcases sq with q | q
  · obtain ⟨bs, r2⟩ := Dp.reads I (.list es) (.ref p) u (.lst q da) ry
    exact ⟨fun k => SeqAt.in_list_reads r2 r1 cl (SeqAt.canLay_of_shaped sd) rm ⟨.bl _, H, I, rfl, k⟩, fun k => SeqAt.notIn_list_reads r2 r1 cl (SeqAt.canLay_of_shaped sd) rm ⟨.bl _, H, I, rfl, k⟩⟩
  · obtain ⟨bs, r2⟩ := Dp.reads I (.tuple es) (.ref p) u (.tup q da) ry
    exact ⟨fun k => SeqAt.in_tuple_reads r2 r1 cl (SeqAt.canLay_of_shaped sd) rm ⟨.bl _, H, I, rfl, k⟩, fun k => SeqAt.notIn_tuple_reads r2 r1 cl (SeqAt.canLay_of_shaped sd) rm ⟨.bl _, H, I, rfl, k⟩⟩
/-- is -/
theorem is_run {pins : List (Addr × Obj)} {s : Shared} {σ : L2.St} {x y : V} {v u : Value} {Q : VK} (I : Inv X pins σ H s) (rx : RelV x v) (ry : RelV y u) {a b : CR} {k : Bool}
    (rel : Rel X.K μ h H) (ra : RX X.K H μ a x) (rb : RX X.K H μ b y) (e : isR a b h = some k) :
    (Q (.bl k) H → wpAny (model X.prog X.w) X.A (compareOp .Is v u) (EP X pins σ Q) X.xe s) ∧ (Q (.bl (!k)) H → wpAny (model X.prog X.w) X.A (compareOp .IsNot v u) (EP X pins σ Q) X.xe s) := by
  unfold isR at e
  split at e
  · cases e
    have e1 := rx_non ra
    have e2 := rx_non rb
    subst e1 e2
    exact ⟨fun q => op_isN pins s σ H _ _ v u Q I rx ry ⟨rfl, by simpa using q⟩, fun q => op_notN pins s σ H _ _ v u Q I rx ry ⟨rfl, by simpa using q⟩⟩
  · rename_i hne
    cases e
    have e2 := rx_non rb
    subst e2
    have nx : x ≠ .non := fun z => by
      subst z
      cases a with
      | al xs => obtain ⟨_, _, z, _⟩ := ra; cases z
      | v c => cases ra; exact hne rfl
    exact ⟨fun q => op_isN pins s σ H _ _ v u Q I rx ry ⟨rfl, by simpa [nx] using q⟩, fun q => op_notN pins s σ H _ _ v u Q I rx ry ⟨rfl, by simpa [nx] using q⟩⟩
  · cases e
    have e1 := rx_bl ra
    have e2 := rx_bl rb
    subst e1 e2
    exact ⟨fun q => op_isBl pins s σ H _ _ v u Q I rx ry ⟨_, _, rfl, rfl, q⟩, fun q => op_notBl pins s σ H _ _ v u Q I rx ry ⟨_, _, rfl, rfl, q⟩⟩
  · rename_i i j
    split at e
    · rename_i q1 q2
      cases e
      cases ra with
      | ref ha =>
      cases rb with
      | ref hb =>
      rename_i pa pb
      obtain ⟨oa, ha', ro⟩ := rel.at ha
      obtain ⟨ob, hb', ro2⟩ := rel.at hb
      rw [q1] at ha'
      rw [q2] at hb'
      cases ha'
      cases hb'
      obtain ⟨dx, f, hpa, _⟩ := ro
      obtain ⟨dx2, f2, hpb, _⟩ := ro2
      have ed : decide (pa = pb) = decide (i = j) := by
        by_cases e : i = j
        · subst e
          rw [ha] at hb; cases hb
          simp
        · have : pa ≠ pb := fun z => by
            subst z
            obtain ⟨h1, e1⟩ := List.getElem?_eq_some_iff.mp ha
            obtain ⟨h2, e2⟩ := List.getElem?_eq_some_iff.mp hb
            exact e ((List.getElem_inj rel.nd).mp (e1.trans e2.symm))
          simp [e, this]
      exact ⟨fun q => op_is_ref pins s σ H _ _ v u Q I rx ry ⟨pa, pb, _, _, rfl, rfl, hpa, rfl, hpb, rfl, by rw [ed]; exact q⟩, fun q => op_isnot_ref pins s σ H _ _ v u Q I rx ry ⟨pa, pb, _, _, rfl, rfl, hpa, rfl, hpb, rfl, by rw [ed]; exact q⟩⟩
    · cases e
  · cases e
theorem op_cmp (hu : X.A.units + 65 < cLine) (op : CmpOp) : OpR X (compareOp op) (rS X.K (cmpR op)) := by
  intro pins s σ H x y v u Q I rx ry q
  obtain ⟨h, μ, a, b, k, rel, ra, rb, w, ps⟩ := q
  cases op
  case Eq =>
    simp only [cmpR] at w
    obtain ⟨d, e, e1, e2, ⟨sd, se⟩, w⟩ := eqR_cases w
    exact op_eqD (by omega) pins s σ H _ _ v u Q I rx ry ⟨d, e, datR_dp rel ra e1, datR_dp rel rb e2, sd, se, ps.bl w rel⟩
  case NotEq =>
    simp only [cmpR] at w
    obtain ⟨d, e, e1, e2, ⟨sd, se⟩, w⟩ := eqR_cases w
    exact op_neD (by omega) pins s σ H _ _ v u Q I rx ry ⟨d, e, datR_dp rel ra e1, datR_dp rel rb e2, sd, se, ps.bl w rel⟩
  case Lt =>
    simp only [cmpR] at w
    obtain ⟨i, j, rfl, rfl, w⟩ := ordR_cases w
    have e1 := rx_int ra
    have e2 := rx_int rb
    subst e1 e2
    exact op_lt pins s σ H _ _ v u Q I rx ry ⟨i, j, rfl, rfl, ps.bl w rel⟩
  case LtE =>
    simp only [cmpR] at w
    obtain ⟨i, j, rfl, rfl, w⟩ := ordR_cases w
    have e1 := rx_int ra
    have e2 := rx_int rb
    subst e1 e2
    exact op_le pins s σ H _ _ v u Q I rx ry ⟨i, j, rfl, rfl, ps.bl w rel⟩
  case Gt =>
    simp only [cmpR] at w
    obtain ⟨i, j, rfl, rfl, w⟩ := ordR_cases w
    have e1 := rx_int ra
    have e2 := rx_int rb
    subst e1 e2
    exact op_gt pins s σ H _ _ v u Q I rx ry ⟨i, j, rfl, rfl, ps.bl w rel⟩
  case GtE =>
    simp only [cmpR] at w
    obtain ⟨i, j, rfl, rfl, w⟩ := ordR_cases w
    have e1 := rx_int ra
    have e2 := rx_int rb
    subst e1 e2
    exact op_ge pins s σ H _ _ v u Q I rx ry ⟨i, j, rfl, rfl, ps.bl w rel⟩
  case Is =>
    simp only [cmpR] at w
    obtain ⟨b, e, w⟩ := oP_of w
    exact (is_run I rx ry rel ra rb e).1 (ps.bl w rel)
  case IsNot =>
    simp only [cmpR] at w
    obtain ⟨b, e, w⟩ := oP_of w
    exact (is_run I rx ry rel ra rb e).2 (ps.bl w rel)
  case In =>
    simp only [cmpR] at w
    obtain ⟨d, ys, es, e1, e2, e3, ⟨sd, se⟩, w⟩ := inR_cases w
    exact (in_run hu I rx ry rel rb e2 e3 (datR_dp rel ra e1) sd se).1 (ps.bl w rel)
  case NotIn =>
    simp only [cmpR] at w
    obtain ⟨d, ys, es, e1, e2, e3, ⟨sd, se⟩, w⟩ := inR_cases w
    exact (in_run hu I rx ry rel rb e2 e3 (datR_dp rel ra e1) sd se).2 (ps.bl w rel)
end
end G

namespace G
open PySem PySem.Spec PyProof.Rows L2
section
variable {X : Cx} {K : PySem.W.Frag} {H H0 H1 H' : Hp} {μ μ0 μ1 μ' : Mu} {h h1 : CH}

/-! ### results taken in -/
theorem RRs.more {p : Addr} {vs : List V} (hp : H p = some (.lst vs)) : ∀ {rs : List CR} {xs : List V}, RRs K H0 H μ rs xs → (∀ (i : Nat) ys, rs[i]? = some (.al ys) → xs[i]? ≠ some (.ref p)) → RRs K H0 H (μ.frz p) rs xs
  | _, _, .nil, _ => .nil
  | _, _, .cons (r := r) (x := x) a t ap, ne => .cons (by
      cases r with
      | v c => exact RV.more (more_frz (lst_np hp)) a
      | al ys =>
        obtain ⟨q, ws, ex, f, n, hq, rv⟩ := a
        refine ⟨q, ws, ex, f, fun m => ?_, hq, rv.more (more_frz (lst_np hp))⟩
        rcases Mu.mem_frz m with m | m
        · exact n m
        · subst m
          exact ne 0 ys rfl (by rw [ex]; rfl)) (RRs.more hp t fun i ys e => ne (i + 1) ys (by simpa using e)) ap
theorem ext_frz {p : Addr} (e : Ext H0 μ0 H μ) (f : H0 p = none) : Ext H0 μ0 H (μ.frz p) := ⟨e.pre, fun q z => .inl (e.pz q z), fun b m nb => by
      rcases Mu.mem_frz m with m | m
      · exact e.fresh b m nb
      · subst m; exact f, e.keep, e.kz⟩
theorem ext_add {p : Addr} (e : Ext H0 μ0 H μ) (f : H0 p = none) : Ext H0 μ0 H (μ.add p) := ⟨e.pre.trans (List.prefix_append _ _), e.pz, fun b m nb => by
      rcases Mu.mem_add m with m | m
      · exact e.fresh b m nb
      · subst m; exact f, e.keep, e.kz⟩
theorem adopts_ok : ∀ {rs : List CR} {xs : List V} {μ : Mu} {h : CH} {q : List CV → CH → Prop}, Ext H0 μ0 H μ → Rel K μ h H → RRs K H0 H μ rs xs → adopts rs h q →
    ∃ cs h' μ', q cs h' ∧ Ext H0 μ0 H μ' ∧ Rel K μ' h' H ∧ RVs K H μ' cs xs ∧ ∀ c x, RV K H μ c x → RV K H μ' c x
  | _, _, μ, h, q, e, rel, .nil, w => ⟨[], h, μ, w, e, rel, .nil, fun _ _ z => z⟩
  | _, _, μ, h, q, e, rel, .cons (r := .v c) a t ap, w => by
    obtain ⟨cs, h', μ', w', e', rel', rv, up⟩ := adopts_ok e rel t (show adopts _ h _ from w)
    exact ⟨_, h', μ', w', e', rel', .cons (up _ _ a) rv, up⟩
  | _, _, μ, h, q, e, rel, .cons (r := .al ys) a t ap, w => by
    obtain ⟨p, vs, ex, f, n, hp, rv⟩ := a
    subst ex
    have rel1 := rel.frz n ⟨_, hp⟩ (lst_np hp)
    have e1 : Ext H0 μ0 H (μ.frz p) := ext_frz e f
    obtain ⟨cs, h', μ', w', e', rel', rv', up⟩ := adopts_ok e1 rel1 (t.more hp fun i ys' ei => ap ys rfl i ys' ei) (show adopts _ _ _ from w)
    exact ⟨_, h', μ', w', e', rel', .cons (up _ _ (.lst (.inr rfl) hp (rv.more (more_frz (lst_np hp))))) rv', fun c x z => up c x (RV.more (more_frz (lst_np hp)) z)⟩
theorem adopt_ok {r : CR} {x : V} {q : CV → CH → Prop} (e : Ext H0 μ0 H μ) (rel : Rel K μ h H) (a : RR K H0 H μ r x) (w : adopt r h q) :
    ∃ c h' μ', q c h' ∧ Ext H0 μ0 H μ' ∧ Rel K μ' h' H ∧ RV K H μ' c x ∧ ∀ c x, RV K H μ c x → RV K H μ' c x := by
  obtain ⟨cs, h', μ', w', e', rel', rv, up⟩ := adopts_ok (rs := [r]) (xs := [x]) (q := fun cs h' => match cs with | [c] => q c h' | _ => False) e rel (.cons a .nil fun _ _ i _ z => by simp at z) (by
    show adopt r h fun x h1 => q x h1
    exact w)
  cases rv with
  | cons a b => cases b; exact ⟨_, h', μ', w', e', rel', a, up⟩

/-! ### arguments -/
def PostA (K : PySem.W.Frag) (H : Hp) (μ : Mu) (k : List CR → CH → Prop) (Q : List V → Hp → Prop) : Prop := ∀ rs h', k rs h' → ∀ μ' H' xs, Ext H μ H' μ' → Rel K μ' h' H' → RRs K H H' μ' rs xs → Q xs H'
def tA (K : PySem.W.Frag) (w : CSt → CH → (List CR → CH → Prop) → WX' → Prop) : TA := fun σ H Q => ∃ c h μ k E, RS K H μ c σ ∧ Rel K μ h H ∧ w c h k E ∧ (∀ x h', ¬ E x h') ∧ PostA K H μ k Q
theorem RRs.on (e : Ext H μ H' μ') : ∀ {rs : List CR} {xs : List V}, RRs K H0 H μ rs xs → RRs K H0 H' μ' rs xs
  | _, _, .nil => .nil
  | _, _, .cons a t ap => .cons (a.on e) (RRs.on e t) ap
theorem RRs.back (e : Ext H0 μ0 H1 μ1) (rel : Rel K μ1 h1 H1) : ∀ {rs : List CR} {xs : List V}, RRs K H1 H μ rs xs → RRs K H0 H μ rs xs
  | _, _, .nil => .nil
  | _, _, .cons a t ap => .cons (a.back e rel) (RRs.back e rel t) ap
theorem RRs.free : ∀ {rs : List CR} {xs : List V} {i : Nat} {ys : List CV}, RRs K H0 H μ rs xs → rs[i]? = some (.al ys) → ∃ p, xs[i]? = some (.ref p) ∧ H0 p = none
  | _, _, _, _, .nil, e => by simp at e
  | _, _, 0, ys, .cons a t ap, e => by
    simp at e; subst e
    obtain ⟨p, vs, ex, f, _⟩ := a
    exact ⟨p, by simp [ex], f⟩
  | _, _, i + 1, ys, .cons a t ap, e => by
    obtain ⟨p, a, b⟩ := RRs.free (i := i) t (by simpa using e)
    exact ⟨p, by simpa using a, b⟩
theorem tA_nil : PA X [] (tA X.K (wA .nil)) := PA.imp pa_nil fun σ H Q ⟨c, h, μ, k, E, rs, rel, w, hE, ps⟩ => ps [] h w μ H [] Ext.refl rel .nil
theorem tA_cons {e : Expr} {es : List Expr} {ie : CE} {ir : CA} (ha : PE X e (tE X.K (wE ie))) (hr : PA X es (tA X.K (wA ir))) (hs : starEach (e :: es) X.env = (false, eval e X.env) :: starEach es X.env) :
    PA X (e :: es) (tA X.K (wA (.cons ie ir))) := PA.imp (pa_cons ha hr hs) fun σ H Q ⟨c, h, μ, k, E, rs, rel, w, hE, ps⟩ => by
  refine ⟨c, h, μ, _, E, rs, rel, w, hE, fun r1 h1 w1 μ1 H1 x e1 rel1 rr1 => ?_⟩
  refine ⟨c, h1, μ1, _, E, rs.ext e1, rel1, w1, hE, fun r2 h2 w2 μ2 H2 xs e2 rel2 rr2 => ?_⟩
  refine ps (r1 :: r2) h2 w2 μ2 H2 (x :: xs) (e1.trans e2) rel2 (.cons (rr1.on e2) (rr2.back e1 rel1) fun ys er i ys' ei => ?_)
  subst er
  obtain ⟨p, vs, ex, f, n, hp, rv⟩ := rr1
  obtain ⟨q, hq, fq⟩ := rr2.free ei
  rw [ex, hq]
  intro z
  cases z
  rw [hp] at fq; cases fq

/-! ### expressions -/
/-- two expressions and an operation -/
theorem two {ia ib : CE} {R : CR → CR → CH → WQ → Prop} {σ : L2.St} {H : Hp} {Q : VK} (w : tE K (fun c h k E => wE ia c h (fun x h1 => wE ib c h1 (fun y h2 => R x y h2 k) E) E) σ H Q) : tOp (rS K R) (tE K (wE ia)) (tE K (wE ib)) σ H Q := by
  obtain ⟨c, h, μ, k, E, rs, rel, w, hE, ps⟩ := w
  refine ⟨c, h, μ, _, E, rs, rel, w, hE, fun r1 h1 w1 μ1 H1 x e1 rel1 rr1 => ?_⟩
  refine ⟨c, h1, μ1, _, E, rs.ext e1, rel1, w1, hE, fun r2 h2 w2 μ2 H2 y e2 rel2 rr2 => ?_⟩
  exact ⟨h2, μ2, r1, r2, k, rel2, rr1.rx.ext e2, rr2.rx, w2, ps.on (e1.trans e2) rel2⟩
/-- one expression, then what R says -/
def rU1 (K : PySem.W.Frag) (R : CR → CH → WQ → Prop) : V → Hp → VK → Prop := fun x H Q => ∃ h μ a k, Rel K μ h H ∧ RX K H μ a x ∧ R a h k ∧ Post K H μ k Q
theorem one {ia : CE} {R : CR → CH → WQ → Prop} {σ : L2.St} {H : Hp} {Q : VK} (w : tE K (fun c h k E => wE ia c h (fun x h1 => R x h1 k) E) σ H Q) : tE K (wE ia) σ H fun x H1 => rU1 K R x H1 Q := by
  obtain ⟨c, h, μ, k, E, rs, rel, w, hE, ps⟩ := w
  refine ⟨c, h, μ, _, E, rs, rel, w, hE, fun r1 h1 w1 μ1 H1 x e1 rel1 rr1 => ?_⟩
  exact ⟨h1, μ1, r1, k, rel1, rr1.rx, w1, ps.on e1 rel1⟩
def rSA (K : PySem.W.Frag) (R : List CR → CH → WQ → Prop) : List V → Hp → VK → Prop := fun xs H Q => ∃ H0 h μ rs k, Rel K μ h H ∧ RRs K H0 H μ rs xs ∧ R rs h k ∧ Post K H μ k Q
theorem args {ia : CA} {R : List CR → CH → WQ → Prop} {σ : L2.St} {H : Hp} {Q : VK} (w : tE K (fun c h k E => wA ia c h (fun x h1 => R x h1 k) E) σ H Q) : tA K (wA ia) σ H fun x H1 => rSA K R x H1 Q := by
  obtain ⟨c, h, μ, k, E, rs, rel, w, hE, ps⟩ := w
  refine ⟨c, h, μ, _, E, rs, rel, w, hE, fun r1 h1 w1 μ1 H1 x e1 rel1 rr1 => ?_⟩
  exact ⟨H, h1, μ1, r1, k, rel1, rr1, w1, ps.on e1 rel1⟩

theorem s_con {e : Expr} {v : CV} {x : V} (h : PE X e (tC x)) (r : ∀ H μ, RV X.K H μ v x) : PE X e (tE X.K (wE (.con v))) := PE.imp h fun σ H Q ⟨c, h, μ, k, E, rs, rel, w, hE, ps⟩ => ps.v w rel (r H μ)
theorem s_var {i : Nat} {x : Str} {pos : Pos} (h : PE X (.Name x pos) (tVar i)) : PE X (.Name x pos) (tE X.K (wE (.var i))) := PE.imp h fun σ H Q ⟨c, h, μ, k, E, rs, rel, w, hE, ps⟩ => by
  simp only [wE] at w
  obtain ⟨y, ey, w⟩ := vr_of w
  obtain ⟨v, e1, r⟩ := rs.at_ i _ ey
  exact ⟨v, e1, ps.v w rel r⟩
theorem s_bin {a b : Expr} {op : Operator} {pos : Pos} {ia ib : CE} (ha : PE X a (tE X.K (wE ia))) (hb : PE X b (tE X.K (wE ib))) : PE X (.BinOp a op b pos) (tE X.K (wE (.bin op ia ib))) :=
  PE.imp (pe_op (op_bin op) ha hb) fun σ H Q w => two w
theorem s_neg {a : Expr} {pos : Pos} {ia : CE} (ha : PE X a (tE X.K (wE ia))) : PE X (.UnaryOp .USub a pos) (tE X.K (wE (.neg ia))) :=
  PE.imp (pe_un un_neg ha) fun σ H Q ⟨c, h, μ, k, E, rs, rel, w, hE, ps⟩ => by
    refine ⟨c, h, μ, _, E, rs, rel, w, hE, fun r1 h1 w1 μ1 H1 x e1 rel1 rr1 => ?_⟩
    dsimp only at w1
    obtain ⟨i, rfl, w1⟩ := inI_of w1
    exact ⟨_, rx_int rr1.rx, (ps.on e1 rel1).int w1 rel1⟩
theorem s_cmp {a b : Expr} {op : CmpOp} {pos : Pos} {ia ib : CE} (hu : X.A.units + 65 < cLine) (ha : PE X a (tE X.K (wE ia))) (hb : PE X b (tE X.K (wE ib))) (hm : behindInMarks op b = false) : PE X (.Compare a [op] [b] pos) (tE X.K (wE (.cmp op ia ib))) :=
  PE.imp (pe_cmpR (op_cmp hu op) ha hb hm) fun σ H Q w => two w
theorem s_chn {a b d : Expr} {o1 o2 : CmpOp} {pos : Pos} {ia ib id : CE} (hu : X.A.units + 65 < cLine) (ha : PE X a (tE X.K (wE ia))) (hb : PE X b (tE X.K (wE ib))) (hd : PE X d (tE X.K (wE id)))
    (hm : behindInMarks o2 d = false) : PE X (.Compare a [o1, o2] [b, d] pos) (tE X.K (wE (.chn o1 o2 ia ib id))) :=
  PE.imp (pe_chain (op_cmp hu o1) (op_cmp hu o2) ha hb hd hm) fun σ H Q ⟨c, h, μ, k, E, rs, rel, w, hE, ps⟩ => by
    refine ⟨c, h, μ, _, E, rs, rel, w, hE, fun r1 h1 w1 μ1 H1 x e1 rel1 rr1 => ?_⟩
    refine ⟨c, h1, μ1, _, E, rs.ext e1, rel1, w1, hE, fun r2 h2 w2 μ2 H2 y e2 rel2 rr2 => ?_⟩
    refine ⟨h2, μ2, r1, r2, _, rel2, rr1.rx.ext e2, rr2.rx, w2, fun r3 h3 w3 μ3 H3 z e3 rel3 rr3 => ?_⟩
    have e13 := e1.trans (e2.trans e3)
    obtain ⟨bk, rfl, w3⟩ := inB_of w3
    cases bk with
    | true =>
      have ez := rx_bl rr3.rx
      subst ez
      refine ⟨true, rfl, ?_⟩
      rw [if_pos rfl]
      refine ⟨c, h3, μ3, _, E, rs.ext e13, rel3, w3, hE, fun r4 h4 w4 μ4 H4 z4 e4 rel4 rr4 => ?_⟩
      exact ⟨h4, μ4, r2, r4, k, rel4, rr2.rx.ext (e3.trans e4), rr4.rx, w4, ps.on (e13.trans e4) rel4⟩
    | false =>
      have ez := rx_bl rr3.rx
      subst ez
      refine ⟨false, rfl, ?_⟩
      rw [if_neg Bool.false_ne_true]
      exact (ps.on e13 rel3).bl w3 rel3
/-- truth -/
theorem tru_of {r : CR} {x : V} {b : Bool} (rel : Rel K μ h H) (rx : RX K H μ r x) (e : truC r h = some b) : TruV K x H b := by
  cases r with
  | al xs =>
    cases e
    obtain ⟨p, vs, rfl, n, hp, rv⟩ := rx
    refine .inl ⟨vs, SqL.of hp, ?_⟩
    cases rv <;> rfl
  | v c =>
    cases c with
    | non => cases rx; cases e; rfl
    | bl c => cases rx; cases e; rfl
    | int i => cases rx; cases e; rfl
    | str s =>
      cases rx with
      | str hz =>
      cases e
      refine ⟨hz, ?_⟩
      show (!s.cps.isEmpty) = ((s.cps.size : Int) != 0)
      rw [Array.isEmpty]
      by_cases q : s.cps.size = 0 <;> simp [q]
    | tup xs =>
      cases rx with
      | tup t rv =>
      cases e
      refine .inr (.inl ⟨_, t.sq, ?_⟩)
      cases rv <;> rfl
    | lst xs =>
      cases rx with
      | lst z hp rv =>
      cases e
      refine .inl ⟨_, SqL.of hp, ?_⟩
      cases rv <;> rfl
    | obj C ns xs => cases e
    | ref a =>
      cases rx with
      | ref ha =>
      obtain ⟨o, ho, ro⟩ := rel.at ha
      simp only [truC, ho] at e
      cases o with
      | lst ys =>
        cases e
        obtain ⟨vs, hp, rv⟩ := ro
        refine .inl ⟨vs, SqL.of hp, ?_⟩
        cases rv <;> rfl
      | fro ys =>
        cases e
        obtain ⟨o, vs, hp, rv⟩ := ro
        refine .inl ⟨vs, .inl (.inr ⟨o, hp⟩), ?_⟩
        cases rv <;> rfl
      | ins C fs => cases e
end
end G

namespace G
open PySem PySem.Spec PyProof.Rows L2
section
variable {X : Cx} {K : PySem.W.Frag} {H H0 H1 H' : Hp} {μ μ0 μ1 μ' : Mu} {h h1 : CH}
theorem cmp_strong {op : CmpOp} {a b : CR} {k : WQ} (w : cmpR op a b h k) : cmpR op a b h fun r h' => (∃ c, r = .v (.bl c)) ∧ k r h' := by
  cases op
  case Eq => simp only [cmpR] at w ⊢; obtain ⟨d, e, e1, e2, s, w⟩ := eqR_cases w; simp only [eqR, e1, e2]; exact ⟨s, ⟨_, rfl⟩, w⟩
  case NotEq => simp only [cmpR] at w ⊢; obtain ⟨d, e, e1, e2, s, w⟩ := eqR_cases w; simp only [eqR, e1, e2]; exact ⟨s, ⟨_, rfl⟩, w⟩
  case Lt => simp only [cmpR] at w ⊢; obtain ⟨i, j, rfl, rfl, w⟩ := ordR_cases w; exact ⟨⟨_, rfl⟩, w⟩
  case LtE => simp only [cmpR] at w ⊢; obtain ⟨i, j, rfl, rfl, w⟩ := ordR_cases w; exact ⟨⟨_, rfl⟩, w⟩
  case Gt => simp only [cmpR] at w ⊢; obtain ⟨i, j, rfl, rfl, w⟩ := ordR_cases w; exact ⟨⟨_, rfl⟩, w⟩
  case GtE => simp only [cmpR] at w ⊢; obtain ⟨i, j, rfl, rfl, w⟩ := ordR_cases w; exact ⟨⟨_, rfl⟩, w⟩
  case Is => simp only [cmpR] at w ⊢; obtain ⟨b, e, w⟩ := oP_of w; rw [e]; exact ⟨⟨_, rfl⟩, w⟩
  case IsNot => simp only [cmpR] at w ⊢; obtain ⟨b, e, w⟩ := oP_of w; rw [e]; exact ⟨⟨_, rfl⟩, w⟩
  case In => simp only [cmpR] at w ⊢; obtain ⟨d, ys, es, e1, e2, e3, s, w⟩ := inR_cases w; simp only [inR, e1, e2, e3, Option.bind_some]; exact ⟨s, ⟨_, rfl⟩, w⟩
  case NotIn => simp only [cmpR] at w ⊢; obtain ⟨d, ys, es, e1, e2, e3, s, w⟩ := inR_cases w; simp only [inR, e1, e2, e3, Option.bind_some]; exact ⟨s, ⟨_, rfl⟩, w⟩

/-! ### tests -/
theorem t_val {e : Expr} {ie : CE} (h : PE X e (tE X.K (wE ie))) (he : ∀ whole, isTrue e X.env whole = (do let v ← whole; standAt e.pos; holding [v] (truthy v))) : PT X e (tB X.K (wB (.val ie))) :=
  PT.imp (pt_truth h he) fun σ H Q ⟨c, h, μ, k, E, rs, rel, w, hE, ps⟩ => by
    refine ⟨c, h, μ, _, E, rs, rel, w, hE, fun r1 h1 w1 μ1 H1 x e1 rel1 rr1 => ?_⟩
    dsimp only at w1
    obtain ⟨_, et, w1⟩ := oP_of w1
    exact ⟨_, tru_of rel1 rr1.rx et, ps _ _ w1 μ1 H1 e1 rel1⟩
theorem t_cmp {a b : Expr} {op : CmpOp} {pos : Pos} {ia ib : CE} (hu : X.A.units + 65 < cLine) (ha : PE X a (tE X.K (wE ia))) (hb : PE X b (tE X.K (wE ib))) (hm : behindInMarks op b = false) : PT X (.Compare a [op] [b] pos) (tB X.K (wB (.val (.cmp op ia ib)))) :=
  PT.imp (pt_cmpR (op_cmp hu op) ha hb hm) fun σ H Q ⟨c, h, μ, k, E, rs, rel, w, hE, ps⟩ => by
    refine ⟨c, h, μ, _, E, rs, rel, w, hE, fun r1 h1 w1 μ1 H1 x e1 rel1 rr1 => ?_⟩
    refine ⟨c, h1, μ1, _, E, rs.ext e1, rel1, w1, hE, fun r2 h2 w2 μ2 H2 y e2 rel2 rr2 => ?_⟩
    refine ⟨h2, μ2, r1, r2, _, rel2, rr1.rx.ext e2, rr2.rx, cmp_strong w2, fun r3 h3 w3 μ3 H3 z e3 rel3 rr3 => ?_⟩
    obtain ⟨⟨d, rfl⟩, w3⟩ := w3
    exact ⟨d, rx_bl rr3.rx, ps _ _ w3 μ3 H3 (e1.trans (e2.trans e3)) rel3⟩
theorem t_chn {a b d : Expr} {o1 o2 : CmpOp} {pos : Pos} {ia ib id : CE} (hu : X.A.units + 65 < cLine) (ha : PE X a (tE X.K (wE ia))) (hb : PE X b (tE X.K (wE ib))) (hd : PE X d (tE X.K (wE id)))
    (hm : behindInMarks o2 d = false) : PT X (.Compare a [o1, o2] [b, d] pos) (tB X.K (wB (.val (.chn o1 o2 ia ib id)))) :=
  PT.imp (pt_chain (op_cmp hu o1) (op_cmp hu o2) ha hb hd hm) fun σ H Q ⟨c, h, μ, k, E, rs, rel, w, hE, ps⟩ => by
    refine ⟨c, h, μ, _, E, rs, rel, w, hE, fun r1 h1 w1 μ1 H1 x e1 rel1 rr1 => ?_⟩
    refine ⟨c, h1, μ1, _, E, rs.ext e1, rel1, w1, hE, fun r2 h2 w2 μ2 H2 y e2 rel2 rr2 => ?_⟩
    refine ⟨h2, μ2, r1, r2, _, rel2, rr1.rx.ext e2, rr2.rx, w2, fun r3 h3 w3 μ3 H3 z e3 rel3 rr3 => ?_⟩
    have e13 := e1.trans (e2.trans e3)
    obtain ⟨bk, rfl, w3⟩ := inB_of w3
    cases bk with
    | true =>
      have ez := rx_bl rr3.rx
      subst ez
      refine ⟨true, rfl, ?_⟩
      rw [if_pos rfl]
      refine ⟨c, h3, μ3, _, E, rs.ext e13, rel3, w3, hE, fun r4 h4 w4 μ4 H4 z4 e4 rel4 rr4 => ?_⟩
      refine ⟨h4, μ4, r2, r4, _, rel4, rr2.rx.ext (e3.trans e4), rr4.rx, cmp_strong w4, fun r5 h5 w5 μ5 H5 z5 e5 rel5 rr5 => ?_⟩
      obtain ⟨⟨d, rfl⟩, w5⟩ := w5
      exact ⟨d, rx_bl rr5.rx, ps _ _ w5 μ5 H5 (e13.trans (e4.trans e5)) rel5⟩
    | false =>
      have ez := rx_bl rr3.rx
      subst ez
      refine ⟨false, rfl, ?_⟩
      rw [if_neg Bool.false_ne_true]
      exact ⟨false, rfl, ps _ _ w3 μ3 H3 e13 rel3⟩
theorem t_not {a : Expr} {pos : Pos} {ia : CB} (ha : PT X a (tB X.K (wB ia))) : PT X (.UnaryOp .Not a pos) (tB X.K (wB (.nt ia))) :=
  PT.imp (pt_not ha) fun σ H Q ⟨c, h, μ, k, E, rs, rel, w, hE, ps⟩ => ⟨c, h, μ, _, E, rs, rel, w, hE, fun b h' w' μ' H' e rel' => ps _ _ w' μ' H' e rel'⟩
theorem w_one {op : BoolOp} {a : Expr} {pos : Pos} {ia : CB} (ha : PT X a (tB X.K (wB ia))) : PW X (.BoolOp op [a] pos) (tB X.K (wB ia)) := by
  cases op
  · exact pw_and1 ha
  · exact pw_or1 ha
theorem w_and {a b : Expr} {rest : List Expr} {pos : Pos} {ia ib : CB} (ha : PT X a (tB X.K (wB ia))) (hb : PW X (.BoolOp .And (b :: rest) pos) (tB X.K (wB ib))) : PW X (.BoolOp .And (a :: b :: rest) pos) (tB X.K (wB (.an ia ib))) :=
  PW.imp (pw_and ha hb) fun σ H Q ⟨c, h, μ, k, E, rs, rel, w, hE, ps⟩ => by
    refine ⟨c, h, μ, _, E, rs, rel, w, hE, fun b1 h1 w1 μ1 H1 e1 rel1 => ?_⟩
    cases b1 with
    | true => exact ⟨c, h1, μ1, _, E, rs.ext e1, rel1, w1, hE, ps.on e1⟩
    | false => exact ps _ _ w1 μ1 H1 e1 rel1
theorem w_or {a b : Expr} {rest : List Expr} {pos : Pos} {ia ib : CB} (ha : PT X a (tB X.K (wB ia))) (hb : PW X (.BoolOp .Or (b :: rest) pos) (tB X.K (wB ib))) : PW X (.BoolOp .Or (a :: b :: rest) pos) (tB X.K (wB (.orr ia ib))) :=
  PW.imp (pw_or ha hb) fun σ H Q ⟨c, h, μ, k, E, rs, rel, w, hE, ps⟩ => by
    refine ⟨c, h, μ, _, E, rs, rel, w, hE, fun b1 h1 w1 μ1 H1 e1 rel1 => ?_⟩
    cases b1 with
    | true => exact ps _ _ w1 μ1 H1 e1 rel1
    | false => exact ⟨c, h1, μ1, _, E, rs.ext e1, rel1, w1, hE, ps.on e1⟩

/-! ### values of tests, and, or -/
theorem s_not {a : Expr} {pos : Pos} {ia : CE} (ha : PE X a (tE X.K (wE ia))) : PE X (.UnaryOp .Not a pos) (tE X.K (wE (.nt (.val ia)))) :=
  PE.imp (pe_notT ha) fun σ H Q ⟨c, h, μ, k, E, rs, rel, w, hE, ps⟩ => by
    refine ⟨c, h, μ, _, E, rs, rel, w, hE, fun r1 h1 w1 μ1 H1 x e1 rel1 rr1 => ?_⟩
    dsimp only at w1
    obtain ⟨_, et, w1⟩ := oP_of w1
    exact ⟨_, tru_of rel1 rr1.rx et, (ps.on e1 rel1).bl w1 rel1⟩
theorem s_and {a b : Expr} {rest : List Expr} {pos : Pos} {ia ib : CE} (ha : PE X a (tE X.K (wE ia))) (hb : PE X (.BoolOp .And (b :: rest) pos) (tE X.K (wE ib))) : PE X (.BoolOp .And (a :: b :: rest) pos) (tE X.K (wE (.an ia ib))) :=
  PE.imp (pe_andT ha hb) fun σ H Q ⟨c, h, μ, k, E, rs, rel, w, hE, ps⟩ => by
    refine ⟨c, h, μ, _, E, rs, rel, w, hE, fun r1 h1 w1 μ1 H1 x e1 rel1 rr1 => ?_⟩
    dsimp only at w1
    obtain ⟨bk, et, w1⟩ := oP_of w1
    cases bk with
    | true =>
      refine ⟨true, tru_of rel1 rr1.rx et, ?_⟩
      rw [if_pos rfl]
      exact ⟨c, h1, μ1, _, E, rs.ext e1, rel1, w1, hE, ps.on e1 rel1⟩
    | false =>
      refine ⟨false, tru_of rel1 rr1.rx et, ?_⟩
      rw [if_neg Bool.false_ne_true]
      exact ps _ _ w1 μ1 H1 x e1 rel1 rr1
theorem s_or {a b : Expr} {rest : List Expr} {pos : Pos} {ia ib : CE} (ha : PE X a (tE X.K (wE ia))) (hb : PE X (.BoolOp .Or (b :: rest) pos) (tE X.K (wE ib))) : PE X (.BoolOp .Or (a :: b :: rest) pos) (tE X.K (wE (.orr ia ib))) :=
  PE.imp (pe_orT ha hb) fun σ H Q ⟨c, h, μ, k, E, rs, rel, w, hE, ps⟩ => by
    refine ⟨c, h, μ, _, E, rs, rel, w, hE, fun r1 h1 w1 μ1 H1 x e1 rel1 rr1 => ?_⟩
    dsimp only at w1
    obtain ⟨bk, et, w1⟩ := oP_of w1
    cases bk with
    | true =>
      refine ⟨true, tru_of rel1 rr1.rx et, ?_⟩
      rw [if_pos rfl]
      exact ps _ _ w1 μ1 H1 x e1 rel1 rr1
    | false =>
      refine ⟨false, tru_of rel1 rr1.rx et, ?_⟩
      rw [if_neg Bool.false_ne_true]
      exact ⟨c, h1, μ1, _, E, rs.ext e1, rel1, w1, hE, ps.on e1 rel1⟩
theorem s_ife {t a b : Expr} {pos : Pos} {it : CB} {ia ib : CE} (ht : PT X t (tB X.K (wB it))) (ha : PE X a (tE X.K (wE ia))) (hb : PE X b (tE X.K (wE ib))) : PE X (.IfExp t a b pos) (tE X.K (wE (.ife it ia ib))) :=
  PE.imp (pe_ifExp ht ha hb) fun σ H Q ⟨c, h, μ, k, E, rs, rel, w, hE, ps⟩ => by
    refine ⟨c, h, μ, _, E, rs, rel, w, hE, fun b1 h1 w1 μ1 H1 e1 rel1 => ?_⟩
    cases b1 with
    | true => exact ⟨c, h1, μ1, _, E, rs.ext e1, rel1, w1, hE, ps.on e1 rel1⟩
    | false => exact ⟨c, h1, μ1, _, E, rs.ext e1, rel1, w1, hE, ps.on e1 rel1⟩

/-! ### displays, subscripts, slices -/
theorem RRs.length : ∀ {rs : List CR} {xs : List V}, RRs K H0 H μ rs xs → rs.length = xs.length
  | _, _, .nil => rfl
  | _, _, .cons _ t _ => by simp [RRs.length t]
theorem s_tup {es : List Expr} {j : Nat} {pos : Pos} {ia : CA} (ha : PA X es (tA X.K (wA ia))) : PE X (.Tuple es j pos) (tE X.K (wE (.tup ia))) :=
  PE.imp (pe_tup ha) fun σ H Q ⟨c, h, μ, k, E, rs, rel, w, hE, ps⟩ => by
    refine ⟨c, h, μ, _, E, rs, rel, w, hE, fun r1 h1 w1 μ1 H1 xs e1 rel1 rr1 => ?_⟩
    obtain ⟨hz, w1⟩ := w1
    obtain ⟨cs, h2, μ2, w2, e2, rel2, rv, _⟩ := adopts_ok e1 rel1 rr1 w1
    refine ⟨by rw [← rr1.length]; exact hz, fun p n => ?_⟩
    exact (ps.on e2 rel2).tup w2 rel2 rv n
theorem s_lst {es : List Expr} {pos : Pos} {ia : CA} (ha : PA X es (tA X.K (wA ia))) : PE X (.List es pos) (tE X.K (wE (.lst ia))) :=
  PE.imp (pe_lst ha) fun σ H Q ⟨c, h, μ, k, E, rs, rel, w, hE, ps⟩ => by
    refine ⟨c, h, μ, _, E, rs, rel, w, hE, fun r1 h1 w1 μ1 H1 xs e1 rel1 rr1 => ?_⟩
    obtain ⟨hz, w1⟩ := w1
    obtain ⟨cs, h2, μ2, w2, e2, rel2, rv, _⟩ := adopts_ok e1 rel1 rr1 w1
    refine ⟨by rw [← rr1.length]; exact hz, fun p n => ?_⟩
    exact (ps.on e2 rel2).al w2 rel2 rv n
theorem atI_rv {xs : List CV} {vs : List V} {i : Int} {c : CV} (r : RVs K H μ xs vs) (e : atI xs i = some c) : ∃ v, atI vs i = some v ∧ RV K H μ c v := by
  unfold atI at e ⊢
  rw [← r.length]
  cases q : ixN xs.length i with
  | none => rw [q] at e; cases e
  | some j =>
    rw [q] at e
    obtain ⟨v, a, b⟩ := r.get (show xs[j]? = some c from e)
    exact ⟨v, a, b⟩
theorem ix_ok : IxR X (rS X.K ixR) := by
  intro value slice pins s σ H x y v u Q I rx ry q hs
  obtain ⟨h, μ, a, b, k, rel, ra, rb, w, ps⟩ := q
  unfold ixR at w
  obtain ⟨xs, e1, w⟩ := oP_of w
  obtain ⟨i, rfl, w⟩ := inI_of w
  have e2 := rx_int rb
  subst e2
  obtain ⟨p, vs, rfl, sq, rv, _⟩ := sqOf_sq rel ra e1
  obtain ⟨c, e3, w⟩ := oP_of w
  obtain ⟨v', e4, r4⟩ := atI_rv rv e3
  refine ix_seq value slice pins s σ H _ _ v u Q I rx ry ?_ hs
  rcases sq with sq | sq
  · exact .inl ⟨p, vs, i, v', rfl, rfl, sq, e4, ps.v w rel r4⟩
  · exact .inr (.inl ⟨p, vs, i, v', rfl, rfl, sq, e4, ps.v w rel r4⟩)
theorem s_ix {a b : Expr} {pos : Pos} {ia ib : CE} (ha : PE X a (tE X.K (wE ia))) (hb : PE X b (tE X.K (wE ib))) (hs : PlainIx b) : PE X (.Subscript a b pos) (tE X.K (wE (.ix ia ib))) :=
  PE.imp (pe_ix ix_ok ha hb hs) fun σ H Q w => two w
theorem cutC_rv {xs : List CV} {vs : List V} (r : RVs K H μ xs vs) (lo hi : Option Int) : RVs K H μ (cutC xs lo hi) (cutV vs lo hi) := by
  unfold cutC cutV
  rw [← r.length]
  exact (r.drop _).take _
def rSl (K : PySem.W.Frag) : V → Option Int → Option Int → Hp → VK → Prop := fun x lo hi H Q => ∃ h μ a k, Rel K μ h H ∧ RX K H μ a x ∧ slR a lo hi h k ∧ Post K H μ k Q
theorem cut_all {xs : List CV} {lo hi : Option Int} (h1 : HT.sIx xs.length 0 lo = 0) (h2 : HT.sIx xs.length xs.length hi = xs.length) : cutC xs lo hi = xs := by
  unfold cutC
  rw [h1, h2]
  simp
theorem sl_ok : SlR X (rSl X.K) := by
  intro pins s σ H x v vl vu lo hi sl Q I rx hs pl pu q
  obtain ⟨h, μ, a, k, rel, ra, w, ps⟩ := q
  unfold slR at w
  split at w
  · obtain ⟨p, vs, rfl, t, rv, _⟩ := tpOf_sq (r := .v (.tup _)) ra rfl
    refine sl_tupA pins s σ H _ v vl vu lo hi sl Q I rx hs pl pu ⟨p, vs, rfl, t.sq, fun ⟨e1, e2⟩ => ?_, fun _ q n => ps.tup w rel (cutC_rv rv lo hi) n⟩
    rw [← rv.length] at e1 e2
    rw [cut_all e1 e2] at w
    exact ps.v w rel ra
  · obtain ⟨_, el, w⟩ := oP_of w
    obtain ⟨p, vs, rfl, sq, rv, _⟩ := lsOf_sq rel ra el
    exact sl_list pins s σ H _ v vl vu lo hi sl Q I rx hs pl pu ⟨p, vs, rfl, sq, fun q n => ps.al w rel (cutC_rv rv lo hi) n⟩
def PostO (K : PySem.W.Frag) (H : Hp) (μ : Mu) (k : Option Int → CH → Prop) (Q : Option Int → Hp → Prop) : Prop := ∀ o h', k o h' → ∀ μ' H', Ext H μ H' μ' → Rel K μ' h' H' → Q o H'
def tO (K : PySem.W.Frag) (w : CSt → CH → (Option Int → CH → Prop) → WX' → Prop) : TO := fun σ H Q => ∃ c h μ k E, RS K H μ c σ ∧ Rel K μ h H ∧ w c h k E ∧ (∀ x h', ¬ E x h') ∧ PostO K H μ k Q
theorem PO.imp {e : Option Expr} {t t' : TO} (h : PO X e t) (i : ∀ σ H Q, t' σ H Q → t σ H Q) : PO X e t' := ⟨fun pins s σ H Q I q => h.run pins s σ H Q I (i σ H Q q)⟩
theorem o_none : PO X none (tO X.K (wO .none)) := PO.imp po_none fun σ H Q ⟨c, h, μ, k, E, rs, rel, w, hE, ps⟩ => ps _ _ w μ H Ext.refl rel
theorem o_some {e : Expr} {ie : CE} (he : PE X e (tE X.K (wE ie))) : PO X (some e) (tO X.K (wO (.some ie))) := ⟨fun pins s σ H Q I ⟨c, h, μ, k, E, rs, rel, w, hE, ps⟩ => by
  rw [evalPart_some]
  refine thn (he.run pins s σ H (fun x H1 => (∃ i, x = V.int i ∧ Q (some i) H1) ∨ (x = V.non ∧ Q Option.none H1)) I ⟨c, h, μ, _, E, rs, rel, w, hE, fun r1 h1 w1 μ1 H1 x e1 rel1 rr1 => ?_⟩) fun u s1 ⟨x, H1, I1, r1, q1⟩ => ?_
  · dsimp only at w1
    unfold partI at w1
    split at w1
    · exact .inl ⟨_, rx_int rr1.rx, ps _ _ w1 μ1 H1 e1 rel1⟩
    · refine .inr ⟨?_, ps _ _ w1 μ1 H1 e1 rel1⟩
      cases rr1
      rfl
    · exact w1.elim
  · rcases q1 with ⟨i, rfl, q⟩ | ⟨rfl, q⟩
    · obtain ⟨t, rfl⟩ := r1
      exact ⟨some i, H1, I1, .int i t, q⟩
    · cases r1
      exact ⟨Option.none, H1, I1, .none, q⟩⟩
theorem s_sl {a : Expr} {lo hi : Option Expr} {p2 pos : Pos} {ia : CE} {il ih : CO1} (ha : PE X a (tE X.K (wE ia))) (hl : PO X lo (tO X.K (wO il))) (hh : PO X hi (tO X.K (wO ih))) : PE X (.Subscript a (.Slice lo hi none p2) pos) (tE X.K (wE (.sl ia il ih))) :=
  PE.imp (pe_slice sl_ok ha hl hh) fun σ H Q ⟨c, h, μ, k, E, rs, rel, w, hE, ps⟩ => by
    refine ⟨c, h, μ, _, E, rs, rel, w, hE, fun r1 h1 w1 μ1 H1 x e1 rel1 rr1 => ?_⟩
    refine ⟨c, h1, μ1, _, E, rs.ext e1, rel1, w1, hE, fun l h2 w2 μ2 H2 e2 rel2 => ?_⟩
    refine ⟨c, h2, μ2, _, E, rs.ext (e1.trans e2), rel2, w2, hE, fun u h3 w3 μ3 H3 e3 rel3 => ?_⟩
    exact ⟨h3, μ3, r1, k, rel3, rr1.rx.ext (e2.trans e3), w3, ps.on (e1.trans (e2.trans e3)) rel3⟩
end
end G

namespace G
open PySem PySem.Spec PyProof.Rows L2
/-- a plain promise, over the abstract heap -/
def simSp (K : PySem.W.Frag) (n : Nat) (sp : Spec) : Sp := fun vs H Q _ => ∃ cs h μ k E, cs.length = n ∧ Rel K μ h H ∧ RVs K H μ cs vs ∧ sp cs h k E ∧ (∀ x h', ¬ E x h') ∧ Post K H μ k Q
/-- values that lie the same everywhere -/
def DV (K : PySem.W.Frag) (ds : List CV) (dvs : List V) : Prop := ∀ H μ, RVs K H μ ds dvs
section
variable {X : Cx} {K : PySem.W.Frag} {H H0 H1 H' : Hp} {μ μ0 μ1 μ' : Mu} {h h1 : CH}
theorem starEach_cons {e : Expr} {es : List Expr} {env : Env} (n : ∀ v p, e ≠ .Starred v p) : starEach (e :: es) env = (false, eval e env) :: starEach es env := by
  cases e <;> first | rfl | exact absurd rfl (n _ _)
def stars : List Expr → Bool
  | [] => false
  | .Starred _ _ :: _ => true
  | _ :: r => stars r
theorem stars_cons {e : Expr} {es : List Expr} (h : stars (e :: es) = false) : (∀ v p, e ≠ .Starred v p) ∧ stars es = false := by
  cases e <;> first | exact ⟨fun _ _ => Expr.noConfusion, h⟩ | (simp [stars] at h)
theorem plain_of {pos : Pos} : ∀ {es : List Expr} {env : Env}, stars es = false → (backTo pos (starEach es env)).any (·.1) = false
  | [], _, _ => rfl
  | e :: es, env, h => by
    obtain ⟨a, b⟩ := stars_cons h
    rw [starEach_cons a]
    show (false || (backTo pos (starEach es env)).any (·.1)) = false
    rw [plain_of b]; rfl

/-- what a def of the text is worth to a caller -/
structure FOk (X : Cx) (f : Addr) (sp : Spec) (n : Nat) (ds : List CV) : Prop where
  ex : ∃ (fd : FuncData) (k : Nat) (ps : List Str) (dvs : List V) (dus : List Value), FnOk X.prog X.w X.K X.mg X.base CX0 k f fd ps (simSp X.K n sp) ∧ Room k X.A ∧ Binds X.K fd ps dus ∧ Vals dvs dus ∧ DV X.K ds dvs
theorem call_end {sp : Spec} {n : Nat} {ds : List CV} {dvs : List V} {rs : List CR} {xs : List V} {Q : VK} {k : WQ} {E : WX'} {E' : XK} (hd : DV K ds dvs) (e : Ext H0 μ0 H μ) (rel : Rel K μ h H) (rr : RRs K H0 H μ rs xs)
    (w : adopts rs h fun xs h2 => (xs ++ ds).length = n ∧ sp (xs ++ ds) h2 k E) (hE : ∀ x h', ¬ E x h') (ps : Post K H0 μ0 k Q) : simSp K n sp (xs ++ dvs) H Q E' := by
  obtain ⟨cs, h2, μ2, ⟨hn, w2⟩, e2, rel2, rv, _⟩ := adopts_ok e rel rr w
  exact ⟨cs ++ ds, h2, μ2, k, E, hn, rel2, rv.append (hd _ _), w2, hE, ps.on e2 rel2⟩
theorem s_call {f : Addr} {x : Str} {p pos : Pos} {es : List Expr} {ia : CA} {sp : Spec} {n : Nat} {ds : List CV} (F : FOk X f sp n ds) (hg : Gl X x) (hm : X.mg x = some (.ref f)) (hk : PySem.W.keepIn X.K (.ref f) = true) (ha : PA X es (tA X.K (wA ia)))
    (h0 : es = [] → ia = .nil) (hst : stars es = false) (hdb : (x == ("__debug__" : Str)) = false) : PE X (.Call (.Name x p) es [] pos) (tE X.K (wE (.call sp n ds ia))) := by
  obtain ⟨fd, k, ps, dvs, dus, F, hr, hb, hv, hd⟩ := F.ex
  cases es with
  | nil =>
    have e0 := h0 rfl
    subst e0
    exact PE.imp (pe_call0 F hr hg hm hk hb hv (E := E0) pass0 hdb) fun σ H Q ⟨c, h, μ, k, E, rs, rel, w, hE, ps⟩ =>
      call_end (E' := E0) (rs := []) (xs := []) hd Ext.refl rel .nil w hE ps
  | cons e es =>
    obtain ⟨a, b⟩ := stars_cons hst
    exact PE.imp (pe_call F hr hg hm hk hb hv (E := E0) pass0 ha hdb (starEach_cons a) (plain_of b)) fun σ H Q ⟨c, h, μ, k, E, rs, rel, w, hE, ps⟩ =>
      ⟨c, h, μ, _, E, rs, rel, w, hE, fun r1 h1 w1 μ1 H1 xs e1 rel1 rr1 => call_end hd e1 rel1 rr1 w1 hE ps⟩
/-- fields -/
def isCall : Expr → Bool
  | .Call (.Name _ _) [] [] _ => true
  | _ => false
theorem abase {o : Expr} {f : Str} {env : Env} {w : Sem Value} (h : isCall o = false) : attributeBase o f env w = w := by
  cases o with
  | Call g es ks p =>
    cases es with
    | cons _ _ => cases g <;> rfl
    | nil =>
      cases ks with
      | cons _ _ => cases g <;> rfl
      | nil => cases g <;> first | rfl | (simp [isCall] at h)
  | _ => rfl
theorem s_fld {o : Expr} {f : Str} {pos : Pos} {io : CE} {cs : List Addr} (ho : PE X o (tE X.K (wE io))) (hk : ∀ C, C ∈ cs → Cls X.K C ∧ NoAttr X.K C f) (hb : isCall o = false) : PE X (.Attribute o f pos) (tE X.K (wE (.fld io f cs))) :=
  PE.imp (pe_fld ho (abase hb)) fun σ H Q ⟨c, h, μ, k, E, rs, rel, w, hE, ps⟩ => by
    refine ⟨c, h, μ, _, E, rs, rel, w, hE, fun r1 h1 w1 μ1 H1 x e1 rel1 rr1 => ?_⟩
    dsimp only at w1
    unfold fldR at w1
    split at w1
    · cases rr1 with
      | obj z hp hl r =>
      obtain ⟨hm, w1⟩ := w1
      obtain ⟨_, el, w1⟩ := oP_of w1
      obtain ⟨v, e2, rv⟩ := r.zipF.look el
      exact ⟨_, _, _, _, v, rfl, hp, (hk _ hm).1, (hk _ hm).2, e2, (ps.on e1 rel1).v w1 rel1 rv⟩
    · cases rr1 with
      | ref ha =>
      obtain ⟨o, ho, ro⟩ := rel1.at ha
      rw [ho] at w1
      cases o with
      | lst ys => exact False.elim w1
      | fro ys => exact False.elim w1
      | ins C fs =>
        obtain ⟨hm, w1⟩ := w1
        obtain ⟨dx, vs, hp, rf⟩ := ro
        obtain ⟨_, el, w1⟩ := oP_of w1
        obtain ⟨v, e2, rv⟩ := rf.look el
        exact ⟨_, C, dx, vs, v, rfl, hp, (hk C hm).1, (hk C hm).2, e2, (ps.on e1 rel1).v w1 rel1 rv⟩
    · exact False.elim w1

/-! ### methods -/
theorem any_all {α : Type} : ∀ {l : List (Bool × α)}, l.any (·.1) = false → l.all (!·.1) = true
  | [], _ => rfl
  | (b, x) :: r, h => by
    have h' : (b || r.any (·.1)) = false := h
    rw [Bool.or_eq_false_iff] at h'
    show (!b && r.all (!·.1)) = true
    rw [h'.1, any_all h'.2]; rfl
def mpl (o : Expr) (env : Env) : Sem Bool := do return (← importBound o env).getD true
theorem mcall_eq {o : Expr} {m : Str} {apos pos : Pos} {es : List Expr} {env : Env} (hc : isCall o = false) (hst : stars es = false) (hn : es.length < 30) (hl : (apos.endLine == pos.line) = true) :
    eval (.Call (.Attribute o m apos) es [] pos) env = (do
      let ov ← eval o env
      standAt apos.atName
      let (f, first) ← holding [ov] (getMethod ov m (mpl o env))
      callWith pos f first (backTo pos (starEach es env)) (backToKw pos (keywordEach [] env))) := by
  have hf : ∀ a, methodCallForm (es.length + 0) (backTo pos (starEach es env)) (backToKw pos (keywordEach [] env)) = a → a = true := fun a e => by
    rw [← e]
    unfold methodCallForm
    rw [any_all (plain_of hst)]
    show (true && true && decide (es.length + 0 + 0 < 30)) = true
    simp [hn]
  rw [arm_eval_Call, abase hc]
  unfold methodCall
  show (eval o env >>= fun ov => standAt apos.atName >>= fun _ => holding [ov] (calleeOf (methodCallForm (es.length + 0) (backTo pos (starEach es env)) (backToKw pos (keywordEach [] env))) o env ov m) >>= fun x =>
    methodCallPos (methodCallForm (es.length + 0) (backTo pos (starEach es env)) (backToKw pos (keywordEach [] env))) o env apos pos >>= fun cp => callWith cp x.1 x.2 (backTo pos (starEach es env)) (backToKw pos (keywordEach [] env))) = _
  rw [hf _ rfl]
  unfold methodCallPos
  rw [if_pos (by simp [hl])]
  rfl
structure MOk (X : Cx) (C : Addr) (m : Str) (sp : Spec) (n : Nat) (ds : List CV) : Prop where
  ex : ∃ f, Cls X.K C ∧ Meth X.K C m f ∧ FOk X f sp n ds
theorem s_mth {o : Expr} {m : Str} {apos pos : Pos} {es : List Expr} {io : CE} {ia : CA} {tb : List (Addr × Spec × Nat × List CV)} (ho : PE X o (tE X.K (wE io))) (ht : ∀ C sp n ds, look tb C = some (sp, n, ds) → MOk X C m sp n ds) (ha : PA X es (tA X.K (wA ia)))
    (h0 : es = [] → ia = .nil) (hst : stars es = false) (hc : isCall o = false) (hn : es.length < 30) (hl : (apos.endLine == pos.line) = true) : PE X (.Call (.Attribute o m apos) es [] pos) (tE X.K (wE (.mth tb m io ia))) := by
  refine ⟨fun pins s σ H Q I w => ?_⟩
  obtain ⟨c, h, μ, k, E, rs, rel, w, hE, ps⟩ := w
  refine PySem.W.methodCall_KW (pl := mpl o X.env) (thn (ho.run pins s σ H (fun x H1 => ∃ h1 μ1 r1, Ext H μ H1 μ1 ∧ Rel X.K μ1 h1 H1 ∧ RR X.K H H1 μ1 r1 x ∧ mthR r1 tb m h1 fun v sp n ds => wA ia c h1 (fun rs h2 => adopts rs h2 fun xs h3 => (xs ++ ds).length + 1 = n ∧ ap sp (v :: (xs ++ ds)) h3 k E) E) I ⟨c, h, μ, _, E, rs, rel, w, hE, fun r1 h1 w1 μ1 H1 x e1 rel1 rr1 => ⟨h1, μ1, r1, e1, rel1, rr1, w1⟩⟩) fun u s1 ⟨x, H1, I1, rx, h1, μ1, r1, e1, rel1, rr1, w1⟩ => ?_) (mcall_eq hc hst hn hl)
  have key : ∀ {C dx p : Addr} {vs : List (Str × V)} {cv : CV} {sp : Spec} {n : Nat} {ds : List CV}, look tb C = some (sp, n, ds) → H1 p = some (.ins C dx vs) → vs.lookup m = none → RV X.K H1 μ1 cv (.ref p) → u = Value.ref p →
      wA ia c h1 (fun rs h2 => adopts rs h2 fun xs h3 => (xs ++ ds).length + 1 = n ∧ sp (cv :: (xs ++ ds)) h3 k E) E → wpAny (model X.prog X.w) X.A (getMethod u m (mpl o X.env)) (fun fx s₂ => wpAny (model X.prog X.w) X.A (callWith pos fx.fst fx.snd (backTo pos (starEach es X.env)) (backToKw pos (keywordEach [] X.env))) (EP X pins σ Q) X.xe s₂) X.xe s1 := by
    intro C dx p vs cv sp n ds q hp hl rcv eu w1
    subst eu
    obtain ⟨f, hC, hm, FO⟩ := (ht C sp n ds q).ex
    obtain ⟨fd, j, pss, dvs, dus, F, hr, hb, hv, hd⟩ := FO.ex
    refine getmeth_ok I1 hp hC hm hl ?_
    have fin : ∀ {H2 : Hp} {μ2 : Mu} {h2 : CH} {rs2 : List CR} {xs : List V}, Ext H1 μ1 H2 μ2 → Rel X.K μ2 h2 H2 → RRs X.K H1 H2 μ2 rs2 xs → (adopts rs2 h2 fun xs h3 => (xs ++ ds).length + 1 = n ∧ sp (cv :: (xs ++ ds)) h3 k E) → simSp X.K n sp (V.ref p :: (xs ++ dvs)) H2 Q E0 := fun {H2 μ2 h2 rs2 xs} e2 rel2 rr2 w2 => by
      obtain ⟨cs, h3, μ3, ⟨hn, w3⟩, e3, rel3, rv, _⟩ := adopts_ok e2 rel2 rr2 w2
      exact ⟨cv :: (cs ++ ds), h3, μ3, k, E, by simpa using hn, rel3, .cons (rcv.ext e3) (rv.append (hd _ _)), w3, hE, ps.on (e1.trans e3) rel3⟩
    cases es with
    | nil =>
      have e0 := h0 rfl
      subst e0
      exact PySem.W.callWith_K0 (first := [.ref p]) I1.kIn hm.kp (run_fn (us := [.ref p]) (vs := [.ref p]) F hr hb hv (E := E0) pass0 I1 (.cons rfl .nil) (fin (rs2 := []) Ext.refl rel1 .nil w1))
    | cons e es =>
      obtain ⟨sa, sb⟩ := stars_cons hst
      refine PySem.W.callWith_K (first := [.ref p]) (h₀ := X.base) I.ok.mod.kin hm.kp (thn (ha.run pos pins s1 σ H1 (fun vs H2 => simSp X.K n sp (V.ref p :: (vs ++ dvs)) H2 Q E0) I1 ⟨c, h1, μ1, _, E, rs.ext e1, rel1, w1, hE, fun rs2 h2 w2 μ2 H2 xs e2 rel2 rr2 => fin e2 rel2 rr2 w2⟩) fun us s2 ⟨vs2, H2, I2, r, q2⟩ => ⟨I2.kIn, ?_⟩) (starEach_cons sa) (plain_of sb)
      exact run_fn (us := .ref p :: us) (vs := .ref p :: vs2) F hr hb hv (E := E0) pass0 I2 (.cons rfl r) q2
  unfold mthR at w1
  split at w1
  · obtain ⟨y, hl, w1⟩ := oP_of w1
    obtain ⟨sp, n, ds⟩ := y
    cases rr1 with
    | obj z hp hl2 r => exact key hl hp (r.zipF.noLook w1.1) (.obj z hp hl2 r) rx w1.2
  · cases rr1 with
    | ref hx =>
    rename_i a p
    obtain ⟨ob, hob, ro⟩ := rel1.at hx
    rw [hob] at w1
    cases ob with
    | lst ys => exact False.elim w1
    | fro ys => exact False.elim w1
    | ins C fs =>
      obtain ⟨dx, vs, hp, rf⟩ := ro
      obtain ⟨y, q, w1⟩ := oP_of w1
      obtain ⟨sp, n, ds⟩ := y
      exact key q hp (rf.noLook w1.1) (.ref hx) rx w1.2
  · exact False.elim w1
end
end G

namespace G
open PySem PySem.Spec PyProof.Rows L2
section
variable {X : Cx} {K : PySem.W.Frag} {H H0 H1 H' : Hp} {μ μ0 μ1 μ' : Mu} {h h1 : CH}
theorem ints_rv : ∀ {xs : List CV} {vs : List V} {ns : List Int}, RVs K H μ xs vs → intsOf xs = some ns → vs = ns.map V.int
  | _, _, _, .nil, e => by cases e; rfl
  | _, _, ns, .cons (x := .int i) a r, e => by
    cases a
    simp only [intsOf] at e
    cases q : intsOf _ with
    | none => rw [q] at e; cases e
    | some ms => rw [q] at e; cases e; rw [ints_rv r q]; rfl
  | _, _, _, .cons (x := .non) a r, e => by cases e
  | _, _, _, .cons (x := .bl _) a r, e => by cases e
  | _, _, _, .cons (x := .str _) a r, e => by cases e
  | _, _, _, .cons (x := .tup _) a r, e => by cases e
  | _, _, _, .cons (x := .lst _) a r, e => by cases e
  | _, _, _, .cons (x := .obj _ _ _) a r, e => by cases e
  | _, _, _, .cons (x := .ref _) a r, e => by cases e
theorem bls_rv : ∀ {xs : List CV} {vs : List V} {ns : List Bool}, RVs K H μ xs vs → blsOf xs = some ns → vs = ns.map V.bl
  | _, _, _, .nil, e => by cases e; rfl
  | _, _, ns, .cons (x := .bl i) a r, e => by
    cases a
    simp only [blsOf] at e
    cases q : blsOf _ with
    | none => rw [q] at e; cases e
    | some ms => rw [q] at e; cases e; rw [bls_rv r q]; rfl
  | _, _, _, .cons (x := .non) a r, e => by cases e
  | _, _, _, .cons (x := .int _) a r, e => by cases e
  | _, _, _, .cons (x := .str _) a r, e => by cases e
  | _, _, _, .cons (x := .tup _) a r, e => by cases e
  | _, _, _, .cons (x := .lst _) a r, e => by cases e
  | _, _, _, .cons (x := .obj _ _ _) a r, e => by cases e
  | _, _, _, .cons (x := .ref _) a r, e => by cases e
theorem CallR.imp {f : Value} {r r' : List V → Hp → VK → Prop} (h : CallR X f r) (i : ∀ xs H Q, r' xs H Q → r xs H Q) : CallR X f r' := fun pins s σ H xs us Q I rs q => h pins s σ H xs us Q I rs (i xs H Q q)
theorem rr1 {r : CR} {xs : List V} (h : RRs K H0 H μ [r] xs) : ∃ x, xs = [x] ∧ RR K H0 H μ r x := by
  cases h with
  | cons a t ap => cases t; exact ⟨_, rfl, a⟩
theorem rr2 {r r' : CR} {xs : List V} (h : RRs K H0 H μ [r, r'] xs) : ∃ x y, xs = [x, y] ∧ RR K H0 H μ r x ∧ RR K H0 H μ r' y := by
  cases h with
  | cons a t ap => obtain ⟨y, rfl, b⟩ := rr1 t; exact ⟨_, y, rfl, a, b⟩
theorem b1_of {rs : List CR} {xs : List V} {k : CR → Prop} (rr : RRs K H0 H μ rs xs) (w : b1 rs k) : ∃ r x, xs = [x] ∧ RR K H0 H μ r x ∧ k r := by
  unfold b1 at w
  split at w
  · obtain ⟨x, rfl, a⟩ := rr1 rr
    exact ⟨_, x, rfl, a, w⟩
  · exact False.elim w
theorem bI2_of {rs : List CR} {xs : List V} {k : Int → Int → Prop} (rr : RRs K H0 H μ rs xs) (w : bI2 rs k) : ∃ i j, xs = [.int i, .int j] ∧ k i j := by
  unfold bI2 at w
  split at w
  · obtain ⟨x, y, rfl, a, b⟩ := rr2 rr
    exact ⟨_, _, by rw [rx_int a.rx, rx_int b.rx], w⟩
  · exact False.elim w
theorem ls_ints {r : CR} {x : V} {ns : List Int} (rel : Rel K μ h H) (a : RX K H μ r x) (e : (lsOf r h).bind intsOf = some ns) : ∃ p, x = .ref p ∧ SqL K H p (ns.map V.int) := by
  cases q : lsOf r h with
  | none => rw [q] at e; cases e
  | some xs =>
    rw [q] at e
    obtain ⟨p, vs, rfl, sq, rv, _⟩ := lsOf_sq rel a q
    exact ⟨p, rfl, by rw [← ints_rv rv e]; exact sq⟩
theorem ls_bls {r : CR} {x : V} {ns : List Bool} (rel : Rel K μ h H) (a : RX K H μ r x) (e : (lsOf r h).bind blsOf = some ns) : ∃ p, x = .ref p ∧ SqL K H p (ns.map V.bl) := by
  cases q : lsOf r h with
  | none => rw [q] at e; cases e
  | some xs =>
    rw [q] at e
    obtain ⟨p, vs, rfl, sq, rv, _⟩ := lsOf_sq rel a q
    exact ⟨p, rfl, by rw [← bls_rv rv e]; exact sq⟩
theorem maxI_spec : ∀ {ns : List Int}, 0 < ns.length → maxI ns ∈ ns ∧ ∀ y ∈ ns, y ≤ maxI ns
  | [x], _ => ⟨by simp [maxI], by simp [maxI]⟩
  | x :: y :: r, _ => by
    obtain ⟨a, b⟩ := maxI_spec (ns := y :: r) (by simp)
    show (if maxI (y :: r) > x then maxI (y :: r) else x) ∈ _ ∧ ∀ z ∈ _, z ≤ (if maxI (y :: r) > x then maxI (y :: r) else x)
    split
    · refine ⟨List.mem_cons_of_mem _ a, fun z hz => ?_⟩
      rcases List.mem_cons.mp hz with e | e
      · omega
      · exact b z e
    · refine ⟨List.mem_cons_self, fun z hz => ?_⟩
      rcases List.mem_cons.mp hz with e | e
      · omega
      · have := b z e; omega
theorem minI_spec : ∀ {ns : List Int}, 0 < ns.length → minI ns ∈ ns ∧ ∀ y ∈ ns, minI ns ≤ y
  | [x], _ => ⟨by simp [minI], by simp [minI]⟩
  | x :: y :: r, _ => by
    obtain ⟨a, b⟩ := minI_spec (ns := y :: r) (by simp)
    show (if minI (y :: r) < x then minI (y :: r) else x) ∈ _ ∧ ∀ z ∈ _, (if minI (y :: r) < x then minI (y :: r) else x) ≤ z
    split
    · refine ⟨List.mem_cons_of_mem _ a, fun z hz => ?_⟩
      rcases List.mem_cons.mp hz with e | e
      · omega
      · exact b z e
    · refine ⟨List.mem_cons_self, fun z hz => ?_⟩
      rcases List.mem_cons.mp hz with e | e
      · omega
      · have := b z e; omega
theorem c_len : CallR X (.builtin "len") (rSA X.K (bltR .len)) := CallR.imp call_len fun xs H Q ⟨H0, h, μ, rs, k, rel, rr, w, ps⟩ => by
  obtain ⟨r, x, rfl, a, w⟩ := b1_of rr w
  obtain ⟨ys, e, w⟩ := oP_of w
  obtain ⟨p, vs, rfl, sq, rv, _⟩ := sqOf_sq rel a.rx e
  refine ⟨.ref p, vs.length, rfl, ?_, by rw [← rv.length]; exact ps.int w rel⟩
  rcases sq with sq | sq
  · exact .inl ⟨vs, sq, rfl⟩
  · exact .inr ⟨vs, sq, rfl⟩
theorem c_abs : CallR X (.builtin "abs") (rSA X.K (bltR .abs)) := CallR.imp call_abs fun xs H Q ⟨H0, h, μ, rs, k, rel, rr, w, ps⟩ => by
  obtain ⟨r, x, rfl, a, w⟩ := b1_of rr w
  obtain ⟨_, rfl, w⟩ := inI_of w
  exact ⟨_, by rw [rx_int a.rx], ps.int w rel⟩
theorem c_min (hc : X.calm = true) : CallR X (.builtin "min") (rSA X.K (bltR .min)) := CallR.imp (call_min2 hc) fun xs H Q ⟨H0, h, μ, rs, k, rel, rr, w, ps⟩ => by
  obtain ⟨i, j, rfl, w⟩ := bI2_of rr w
  exact ⟨i, j, rfl, ps.int w rel⟩
theorem c_max (hc : X.calm = true) : CallR X (.builtin "max") (rSA X.K (bltR .max)) := CallR.imp (call_max2 hc) fun xs H Q ⟨H0, h, μ, rs, k, rel, rr, w, ps⟩ => by
  obtain ⟨i, j, rfl, w⟩ := bI2_of rr w
  exact ⟨i, j, rfl, ps.int w rel⟩
theorem c_min1 (hc : X.calm = true) : CallR X (.builtin "min") (rSA X.K (bltR .min1)) := CallR.imp (cr_min hc) fun xs H Q ⟨H0, h, μ, rs, k, rel, rr, w, ps⟩ => by
  obtain ⟨r, x, rfl, a, w⟩ := b1_of rr w
  obtain ⟨ns, e, hl, w⟩ := oP_of w
  obtain ⟨p, rfl, sq⟩ := ls_ints rel a.rx e
  refine ⟨p, ns, rfl, sq, hl, fun m h1 h2 => ?_⟩
  obtain ⟨q1, q2⟩ := minI_spec hl
  have : m = minI ns := Int.le_antisymm (h2 _ q1) (q2 _ h1)
  subst this
  exact ps.int w rel
theorem c_max1 (hc : X.calm = true) : CallR X (.builtin "max") (rSA X.K (bltR .max1)) := CallR.imp (cr_max hc) fun xs H Q ⟨H0, h, μ, rs, k, rel, rr, w, ps⟩ => by
  obtain ⟨r, x, rfl, a, w⟩ := b1_of rr w
  obtain ⟨ns, e, hl, w⟩ := oP_of w
  obtain ⟨p, rfl, sq⟩ := ls_ints rel a.rx e
  refine ⟨p, ns, rfl, sq, hl, fun m h1 h2 => ?_⟩
  obtain ⟨q1, q2⟩ := maxI_spec hl
  have : m = maxI ns := Int.le_antisymm (q2 _ h1) (h2 _ q1)
  subst this
  exact ps.int w rel
theorem c_sum (hc : X.calm = true) : CallR X (.builtin "sum") (rSA X.K (bltR .sum)) := CallR.imp (cr_sum hc) fun xs H Q ⟨H0, h, μ, rs, k, rel, rr, w, ps⟩ => by
  obtain ⟨r, x, rfl, a, w⟩ := b1_of rr w
  obtain ⟨ns, e, w⟩ := oP_of w
  obtain ⟨p, rfl, sq⟩ := ls_ints rel a.rx e
  exact ⟨p, ns, rfl, sq, ps.int w rel⟩
theorem c_all (hc : X.calm = true) : CallR X (.builtin "all") (rSA X.K (bltR .all)) := CallR.imp (cr_all hc) fun xs H Q ⟨H0, h, μ, rs, k, rel, rr, w, ps⟩ => by
  obtain ⟨r, x, rfl, a, w⟩ := b1_of rr w
  obtain ⟨ns, e, w⟩ := oP_of w
  obtain ⟨p, rfl, sq⟩ := ls_bls rel a.rx e
  exact ⟨p, ns, rfl, sq, ps.bl w rel⟩
theorem c_any (hc : X.calm = true) : CallR X (.builtin "any") (rSA X.K (bltR .any)) := CallR.imp (cr_any hc) fun xs H Q ⟨H0, h, μ, rs, k, rel, rr, w, ps⟩ => by
  obtain ⟨r, x, rfl, a, w⟩ := b1_of rr w
  obtain ⟨ns, e, w⟩ := oP_of w
  obtain ⟨p, rfl, sq⟩ := ls_bls rel a.rx e
  exact ⟨p, ns, rfl, sq, ps.bl w rel⟩
theorem c_int : CallR X (.type "int") (rSA X.K (bltR .int)) := CallR.imp call_int1 fun xs H Q ⟨H0, h, μ, rs, k, rel, rr, w, ps⟩ => by
  obtain ⟨r, x, rfl, a, w⟩ := b1_of rr w
  unfold toI at w
  split at w
  · exact .inl ⟨_, by rw [rx_int a.rx], ps.int w rel⟩
  · exact .inr ⟨_, by rw [rx_bl a.rx], ps.int w rel⟩
  · exact False.elim w
theorem c_bool : CallR X (.type "bool") (rSA X.K (bltR .bool)) := CallR.imp call_bool1 fun xs H Q ⟨H0, h, μ, rs, k, rel, rr, w, ps⟩ => by
  obtain ⟨r, x, rfl, a, w⟩ := b1_of rr w
  unfold toB at w
  split at w
  · exact .inl ⟨_, by rw [rx_int a.rx], ps.bl w rel⟩
  · exact .inr ⟨_, by rw [rx_bl a.rx], ps.bl w rel⟩
  · exact False.elim w
theorem c_list : CallR X (.type "list") (rSA X.K (bltR .list)) := CallR.imp call_list_of fun xs H Q ⟨H0, h, μ, rs, k, rel, rr, w, ps⟩ => by
  obtain ⟨r, x, rfl, a, w⟩ := b1_of rr w
  obtain ⟨ys, e, w⟩ := oP_of w
  obtain ⟨p, vs, rfl, sq, rv, _⟩ := sqOf_sq rel a.rx e
  exact ⟨p, vs, rfl, sq, fun q n => ps.al w rel rv n⟩
theorem c_tuple : CallR X (.type "tuple") (rSA X.K (bltR .tuple)) := CallR.imp call_tuple_of fun xs H Q ⟨H0, h, μ, rs, k, rel, rr, w, ps⟩ => by
  obtain ⟨r, x, rfl, a, w⟩ := b1_of rr w
  obtain ⟨ys, e, w⟩ := oP_of w
  obtain ⟨p, vs, rfl, sq, rv, t⟩ := sqOf_sq rel a.rx e
  rcases t with ⟨t, rt⟩ | ⟨_, sl⟩
  · refine ⟨p, vs, rfl, .inr ⟨rt.sq, ?_⟩⟩
    exact ps.v w rel (.tup rt rv)
  · exact ⟨p, vs, rfl, .inl ⟨sl, fun q n => ps.tup w rel rv n⟩⟩
theorem c_divmod : CallR X (.builtin "divmod") (rSA X.K (bltR .divmod)) := CallR.imp call_divmod fun xs H Q ⟨H0, h, μ, rs, k, rel, rr, w, ps⟩ => by
  obtain ⟨i, j, rfl, hc, w⟩ := bI2_of rr w
  exact ⟨i, j, rfl, hc, fun q n => ps.tup w rel (.cons (.int _) (.cons (.int _) .nil)) n⟩

/-- what a built-in's name is, and its rule -/
inductive BltOk (X : Cx) : Str → Blt → Prop
  | fn {x : Str} {id : String} {b : Blt} (hv : bootBuiltins x = some (.builtin id)) (hn : x ≠ "__name__") (hdb : (x == ("__debug__" : Str)) = false) (c : CallR X (.builtin id) (rSA X.K (bltR b))) : BltOk X x b
  | ty {x : Str} {T : String} {b : Blt} (hv : bootBuiltins x = some (.type T)) (hn : x ≠ "__name__") (hdb : (x == ("__debug__" : Str)) = false) (c : CallR X (.type T) (rSA X.K (bltR b))) : BltOk X x b
theorem s_blt {x : Str} {b : Blt} {p pos : Pos} {es : List Expr} {ia : CA} (B : BltOk X x b) (hg : Gl X x) (hm : X.mg x = none) (ha : PA X es (tA X.K (wA ia))) (hst : stars es = false) (hne : es ≠ []) : PE X (.Call (.Name x p) es [] pos) (tE X.K (wE (.blt b ia))) := by
  cases es with
  | nil => exact absurd rfl hne
  | cons e es =>
    obtain ⟨sa, sb⟩ := stars_cons hst
    cases B with
    | fn hv hn hdb c => exact PE.imp (pe_callB c hg hm hv ha hn hdb (starEach_cons sa) (plain_of sb)) fun σ H Q w => args w
    | ty hv hn hdb c => exact PE.imp (pe_callTy c hg hm hv ha hn hdb (starEach_cons sa) (plain_of sb)) fun σ H Q w => args w
def bltName : Str → Nat → Option Blt := fun x n =>
  if x = "len" ∧ n = 1 then some .len else if x = "abs" ∧ n = 1 then some .abs else if x = "min" ∧ n = 2 then some .min else if x = "max" ∧ n = 2 then some .max
  else if x = "min" ∧ n = 1 then some .min1 else if x = "max" ∧ n = 1 then some .max1 else if x = "sum" ∧ n = 1 then some .sum else if x = "all" ∧ n = 1 then some .all else if x = "any" ∧ n = 1 then some .any
  else if x = "int" ∧ n = 1 then some .int else if x = "bool" ∧ n = 1 then some .bool else if x = "list" ∧ n = 1 then some .list else if x = "tuple" ∧ n = 1 then some .tuple else if x = "divmod" ∧ n = 2 then some .divmod else none
theorem ite_of {c : Prop} [Decidable c] {a b : Blt} {r : Option Blt} (e : (if c then some a else r) = some b) : (c ∧ b = a) ∨ r = some b := by
  by_cases q : c
  · rw [if_pos q] at e; cases e; exact .inl ⟨q, rfl⟩
  · rw [if_neg q] at e; exact .inr e
theorem bltName_ok (hc : X.calm = true) {x : Str} {n : Nat} {b : Blt} (e : bltName x n = some b) : BltOk X x b := by
  unfold bltName at e
  rcases ite_of e with ⟨⟨rfl, _⟩, rfl⟩ | e; · exact .fn (by decide +kernel) (by decide) (by decide) c_len
  rcases ite_of e with ⟨⟨rfl, _⟩, rfl⟩ | e; · exact .fn (by decide +kernel) (by decide) (by decide) c_abs
  rcases ite_of e with ⟨⟨rfl, _⟩, rfl⟩ | e; · exact .fn (by decide +kernel) (by decide) (by decide) (c_min hc)
  rcases ite_of e with ⟨⟨rfl, _⟩, rfl⟩ | e; · exact .fn (by decide +kernel) (by decide) (by decide) (c_max hc)
  rcases ite_of e with ⟨⟨rfl, _⟩, rfl⟩ | e; · exact .fn (by decide +kernel) (by decide) (by decide) (c_min1 hc)
  rcases ite_of e with ⟨⟨rfl, _⟩, rfl⟩ | e; · exact .fn (by decide +kernel) (by decide) (by decide) (c_max1 hc)
  rcases ite_of e with ⟨⟨rfl, _⟩, rfl⟩ | e; · exact .fn (by decide +kernel) (by decide) (by decide) (c_sum hc)
  rcases ite_of e with ⟨⟨rfl, _⟩, rfl⟩ | e; · exact .fn (by decide +kernel) (by decide) (by decide) (c_all hc)
  rcases ite_of e with ⟨⟨rfl, _⟩, rfl⟩ | e; · exact .fn (by decide +kernel) (by decide) (by decide) (c_any hc)
  rcases ite_of e with ⟨⟨rfl, _⟩, rfl⟩ | e; · exact .ty (by decide +kernel) (by decide) (by decide) c_int
  rcases ite_of e with ⟨⟨rfl, _⟩, rfl⟩ | e; · exact .ty (by decide +kernel) (by decide) (by decide) c_bool
  rcases ite_of e with ⟨⟨rfl, _⟩, rfl⟩ | e; · exact .ty (by decide +kernel) (by decide) (by decide) c_list
  rcases ite_of e with ⟨⟨rfl, _⟩, rfl⟩ | e; · exact .ty (by decide +kernel) (by decide) (by decide) c_tuple
  rcases ite_of e with ⟨⟨rfl, _⟩, rfl⟩ | e; · exact .fn (by decide +kernel) (by decide) (by decide) c_divmod
  cases e
end
end G

namespace PySem
open PySem
set_option maxHeartbeats 1000000 in
theorem meets_enumerate_newB1 {v : Value} {o : Obj} {H : Heap → Prop} (B : Begins v o H) :
    Meets (Builtin.«enumerate.__new__» ⟨[.type "enumerate", v], []⟩) (fun _ R s => H s.heap ∧
      R (.ok (.ret (.ref (s.heap.push o).objs.size))) { s with heap := (s.heap.push o).push { cls := .type "enumerate", data := .fields #[.none, .bool false, .ref s.heap.objs.size, rawInt 0, .none, .none] } }) :=
  .of_wp fun prog w A R s h => by
    obtain ⟨hp, g, d, tk, os⟩ := s; obtain ⟨h1, h⟩ := h
    have hsub := sub_enumerate
    have q1 : ∀ {A' : Around} {E : Value → Shared → Prop} {Q : Value → Shared → Prop}, Q (.ref hp.objs.size) ⟨hp.push o, g, d, tk, os⟩ → wpAny (model prog w) A' (pyIter v) Q E ⟨hp, g, d, tk, os⟩ :=
      fun q => B.iter prog w _ _ ⟨hp, g, d, tk, os⟩ _ h1 q
    wp_walk using q1
    refine wpAny_stack_any fun st => wpAny_pure ?_
    split
    · rename_i c _ _ _ _ _
      cases (c == Value.type "enumerate")
      · wp_walk using q1
        exact ⟨_, rfl, h⟩
      · wp_walk using q1
        exact ⟨_, rfl, h⟩
    · wp_walk using q1
      exact ⟨_, rfl, h⟩
theorem enum_begins1 {prog : Program} {w : World} {A : Around} {E : Value → Shared → Prop} {s : Shared} {v : Value} {o : Obj} {H : Heap → Prop} {Q : Value → Shared → Prop} (B : Begins v o H) (h1 : H s.heap)
    (h : ∀ h', IsEnum h' (s.heap.objs.size + 1) s.heap.objs.size 0 .none → h'.get? s.heap.objs.size = some o → h'.objs.size = s.heap.objs.size + 2 →
      (∀ b o, s.heap.get? b = some o → h'.get? b = some o) → Q (.ref (s.heap.objs.size + 1)) { s with heap := h' }) :
    wpAny (model prog w) A (call (.type "enumerate") [v]) Q E s := by
  refine callType_new F.called_enumerate (by decide) (F.typeCall_enumerate_1 _) (F.newCall_enumerate_1 _) (fun obj => F.args_object_init_2 obj _) F.entry_enumerate_new
    (meets_enumerate_newB1 B) ⟨h1, ?_⟩
  have hz : (s.heap.push o).objs.size = s.heap.objs.size + 1 := Heap.size_push ..
  show _ ∧ _
  rw [hz]
  have he : IsEnum ((s.heap.push o).push { cls := .type "enumerate", data := .fields #[.none, .bool false, .ref s.heap.objs.size, rawInt 0, .none, .none] }) (s.heap.objs.size + 1) s.heap.objs.size 0 .none := by
    have := Heap.get?_push_size (s.heap.push o) (o := { cls := .type "enumerate", data := .fields #[.none, .bool false, .ref s.heap.objs.size, rawInt 0, .none, .none] }) rfl
    rw [hz] at this; exact this
  refine ⟨⟨_, he, rfl⟩, h _ he (Heap.get?_push_of_some _ (Heap.get?_push_size _ B.free)) (by rw [Heap.size_push, hz]) fun b o x => Heap.get?_push_of_some _ (Heap.get?_push_of_some _ x)⟩
end PySem
namespace G
open PySem PySem.Spec PyProof.Rows L2
/-- the tuple at a, each item in a new pair with its number -/
def IteT (K : PySem.W.Frag) (a : Addr) : It :=
  ⟨fun i H => ∃ (xs : List V) (x : V), SqT K H a xs ∧ xs[i]? = some x, fun i H v H' => ∃ T x, v = .ref T ∧ H T = none ∧ H' = upd H T (.tup [.int (i : Nat), x]) ∧ ∀ xs, SqT K H a xs → xs[i]? = some x, fun i H => ∃ xs : List V, SqT K H a xs ∧ xs.length ≤ i⟩
theorem turn_enumT {P : Program} {w : World} {K : PySem.W.Frag} {elts : List Expr} {kk : Nat} {tpos : Pos} (a e it : Addr) :
    Turn P w K (.Tuple elts kk tpos) (IteT K a) [e, it] e (fun i h => (∃ old, IsEnum h e it ((i : Nat) : Int) old) ∧ h.IsTupleIter it a i ∧ e ≠ it ∧ e ≠ a ∧ a ≠ it) where
  mem := by simp
  obj := fun i h st b hb => by
    obtain ⟨⟨old, he⟩, ⟨o, ho, hc, hd⟩, _⟩ := st
    have e' : b = e ∨ b = it := by simpa using hb
    rcases e' with z | z
    · rw [z]; exact ⟨_, he, fun v q => nomatch q⟩
    · rw [z]; exact ⟨o, ho, fun v q => by rw [hd] at q; cases q⟩
  keep := fun i h h' st k => let ⟨⟨old, he⟩, hi, hne⟩ := st; ⟨⟨old, k e (by simp) _ he⟩, hi.at fun o q => k it (by simp) o q, hne⟩
  item := by
    intro X hP hw hK hc i pins s σ H E I hf st hg
    subst hP hw hK
    obtain ⟨⟨old, he⟩, hit, hne, hea, hat⟩ := st
    obtain ⟨xs, x, hq, hx⟩ := hg
    obtain ⟨its, rv, p, hz⟩ := I.tuple hq
    have p' : s.heap.IsTuple a its.toArray := p
    have hel : e < s.heap.objs.size := Heap.lt_size he
    have hil : it < s.heap.objs.size := by obtain ⟨_, q, _⟩ := hit; exact Heap.lt_size q
    have hlt : i < its.toArray.size := by
      have := (List.getElem?_eq_some_iff.mp hx).1
      have := rv.length
      simp; omega
    refine wpAny_pyNext_enum_itemD (Draws.tuple (prog := X.prog) (w := X.w) (A := X.A.in1) (I.ok.hd hc) it a hat its.toArray) he ⟨hit, p'⟩ hlt hne (by simp [hne, hea]) fun u h' tk hu ho hst' hT hsz hk => ?_
    obtain ⟨hit', _⟩ := hst'
    have ru : RelV x u := by
      obtain ⟨u', hu', ru⟩ := rv.get hx
      have : its.toArray[i]? = some u' := by simpa using hu'
      rw [this] at hu; cases hu; exact ru
    refine ⟨_, rfl, wpAny_letOwnedTupleGo_enum (s := { s with heap := h', toks := tk + 1 }) ho fun h'' he' sb => ?_⟩
    have hT2 : h''.get? s.heap.objs.size = some { cls := .type "tuple", data := .seq #[.int i tk, u] } := (sb.2 _ (Nat.ne_of_gt hel)).trans hT
    have new : ObjOk X.prog X.w (upd H s.heap.objs.size (.tup [.int (i : Nat), x])) h'' s.heap.objs.size (.tup [.int (i : Nat), x]) :=
      ⟨by show 2 ≤ sizeLine; decide, [.int i tk, u], .cons ⟨_, rfl⟩ (.cons ru .nil), ⟨_, hT2, rfl, _, rfl⟩⟩
    have I1 : Inv X pins σ (upd H s.heap.objs.size (.tup [.int (i : Nat), x])) { s with heap := h'', toks := tk + 1 } :=
      I.turnedNew (ch := [e, it]) (fun b ob hb q => (sb.2 b (fun z => hb (by simp [z]))).trans (hk b ob (fun z => hb (by simp [z])) (fun z => hb (by simp [z])) q)) hf (Nat.le_refl _) new
    refine ⟨.ref s.heap.objs.size, _, I1, rfl, ⟨_, x, rfl, I.hok.fresh (Nat.le_refl _), rfl, fun ys hy => by rw [I.tuple_inj hy hq]; exact hx⟩, ⟨⟨u, ?_⟩, hit'.at fun o q => (sb.2 it (Ne.symm hne)).trans q, hne, hea, hat⟩, fun b hb => ?_⟩
    · have e1 : ((i + 1 : Nat) : Int) = (i : Int) + 1 := by omega
      rw [e1]; exact he'
    · have hb' : b < s.heap.objs.size := by
        have e' : b = e ∨ b = it := by simpa using hb
        rcases e' with z | z
        · rw [z]; exact hel
        · rw [z]; exact hil
      rw [upd_ne (Nat.ne_of_lt hb')]
      exact (hf b hb).1
  done := by
    intro X hP hw hK hc i pins s σ H E I hf st hg
    subst hP hw hK
    obtain ⟨⟨old, he⟩, hit, hne, hea, hat⟩ := st
    obtain ⟨xs, hq, hx⟩ := hg
    obtain ⟨its, rv, p, hz⟩ := I.tuple hq
    obtain ⟨f0, f1, f2, f3, f4, f5⟩ := hf it (by simp)
    have hl := rv.length
    -- the iterator stands at i, at or behind the end
    have p' : s.heap.IsTuple a its.toArray := p
    refine wpAny_pyNext_enum_endD (n := i) (fp := [it, a]) (P := fun _ _ => False) (St := fun j h => j = i ∧ h.IsTupleIter it a i ∧ h.IsTuple a its.toArray) ⟨fun _ _ st => let ⟨o, ho, _⟩ := st.2.1; ⟨o, ho⟩,
      fun _ _ _ st hk => ⟨st.1, st.2.1.at fun o e => hk it (by simp) o e, st.2.2.at fun o e => hk a (by simp) o e⟩, fun j s Q E hi st hQ => absurd hi (by rw [st.1]; exact Nat.lt_irrefl _),
      fun s Q E st hE => wpAny_nextOf_tuple_end (I.ok.hd hc) st.2.1 st.2.2 (by simp; omega) hE⟩ he ⟨rfl, hit, p'⟩ fun h' eb => ⟨rfl, I.turned (t' := s.toks) (fun b o hb q => eb b o hb q) f0 f1 f3 f4 f5⟩
  self := fun A i s Q E st h => let ⟨⟨_, he⟩, _⟩ := st; wpAny_pyIter_enum he h
end G

namespace G
open PySem PySem.Spec PyProof.Rows L2
/-- what an iterator does, from H0, μ0 on, while G stands -/
def WalkC (K : PySem.W.Frag) (B H0 : Hp) (μ0 : Mu) (J : It) (xs : List CV) (G : CH → Prop) : Prop :=
  ∀ μ h H, ExtT B H0 μ0 H μ → Rel K μ h H → G h → (∀ i, i < xs.length → J.go i H) ∧ J.stop xs.length H ∧
    ∀ i x H', i < xs.length → J.yld i H x H' → Ext H μ H' μ ∧ Rel K μ h H' ∧ ∃ c, xs[i]? = some c ∧ RV K H' μ c x
def PostI (K : PySem.W.Frag) (H : Hp) (μ : Mu) (k : List CV → (CH → Prop) → CH → Prop) (R : It → Hp → Prop) : Prop :=
  ∀ xs G h', k xs G h' → ∀ μ' H' J, Ext H μ H' μ' → Rel K μ' h' H' → WalkC K H H' μ' J xs G → R J H'
def tI (K : PySem.W.Frag) (w : CSt → CH → (List CV → (CH → Prop) → CH → Prop) → WX' → Prop) : TI := fun σ H R => ∃ c h μ k E, RS K H μ c σ ∧ Rel K μ h H ∧ w c h k E ∧ (∀ x h', ¬ E x h') ∧ PostI K H μ k R
section
variable {X : Cx} {K : PySem.W.Frag} {B H H0 H1 H' : Hp} {μ μ0 μ1 μ' : Mu} {h h1 : CH}
theorem PI.imp {tg e : Expr} {t t' : TI} (h : PI X tg e t) (i : ∀ σ H Q, t' σ H Q → t σ H Q) : PI X tg e t' := ⟨fun pins s σ H Q I q => h.run pins s σ H Q I (i σ H Q q)⟩
theorem Ext.stay {o : HO} {p : Addr} (e : Ext H μ H' μ') (n : p ∉ μ) (q : H p = some o) : H' p = some o ∧ p ∉ μ' := ⟨e.keep p o n q, fun m => by
  have z := e.fresh p m n
  rw [q] at z; cases z⟩
/-- a result that is walked: how it lies later -/
theorem walk_ls {r : CR} {x : V} {xs : List CV} (rel : Rel K μ h H) (a0 : RR K B H μ r x) (e : lsOf r h = some xs) : ∃ p, x = .ref p ∧ (∃ ys, SqL K H p ys) ∧
    ∀ μ2 h2 H2, ExtT B H μ H2 μ2 → Rel K μ2 h2 H2 → gdOf r h h2 → ∃ vs, SqL K H2 p vs ∧ (H2 p = some (.lst vs) ∨ ∃ o, H2 p = some (.frz o (.lst vs))) ∧ RVs K H2 μ2 xs vs := by
  have a := a0.rx
  obtain ⟨p, vs, rfl, sq, rv, hp⟩ := lsOf_sq rel a e
  refine ⟨p, rfl, ⟨vs, sq⟩, fun μ2 h2 H2 e2 rel2 g => ?_⟩
  cases r with
  | al ys =>
    cases e
    obtain ⟨q, vs2, ex, fB, n, hq, rv2⟩ := a0
    cases ex
    obtain ⟨hq2, n2⟩ := e2.stay n hq (.inl fB)
    exact ⟨vs2, SqL.of hq2, .inl hq2, rv2.extT e2⟩
  | v c =>
    cases c <;> try (simp [lsOf] at e; done)
    · cases e
      cases a with
      | lst z hp2 r =>
        have hp3 := e2.kz _ _ z hp2
        exact ⟨_, SqL.of hp3, .inl hp3, r.extT e2⟩
    rename_i a'
    cases a with
    | ref ha =>
      have ha2 := get_pre e2.pre ha
      have e3 : lsOf (.v (.ref a')) h2 = some xs := by
        have g' : h2[a']? = h[a']? := g
        simp only [lsOf] at e ⊢
        rw [g']; exact e
      obtain ⟨p', vs', ex, sq', rv', hp'⟩ := lsOf_sq (r := .v (.ref a')) (x := .ref p) rel2 (RV.ref ha2) e3
      cases ex
      exact ⟨vs', sq', hp', rv'⟩
theorem walk_tp {r : CR} {x : V} {xs : List CV} (a : RX K H μ r x) (e : tpOf r = some xs) : ∃ p vs, x = .ref p ∧ SqT K H p vs ∧ vs.length = xs.length ∧
    ∀ μ2 H2, ExtT B H μ H2 μ2 → SqT K H2 p vs ∧ RVs K H2 μ2 xs vs := by
  obtain ⟨p, vs, rfl, t, rv, _⟩ := tpOf_sq a e
  exact ⟨p, vs, rfl, t.sq, rv.length.symm, fun μ2 H2 e2 => ⟨(t.extT e2).sq, rv.extT e2⟩⟩
/-- a list or a tuple, walked -/
theorem sqOf_or {r : CR} {xs : List CV} (e : sqOf r h = some xs) : (tpOf r = some xs ∧ gdOf r h = fun _ => True) ∨ (tpOf r = none ∧ lsOf r h = some xs) := by
  unfold sqOf at e
  cases q : tpOf r with
  | some ys =>
    rw [q] at e
    refine .inl ⟨e, ?_⟩
    cases r with
    | al _ => cases q
    | v c => cases c <;> first | (cases q; done) | rfl | (simp [tpOf] at q)
  | none => rw [q] at e; exact .inr ⟨rfl, e⟩
theorem pi_seq {tg l : Expr} {tl : TE} (hl : PE X l tl) : PI X tg l (fun σ H R => tl σ H fun x H1 => ∃ a, x = .ref a ∧ (((∃ xs, SqL X.K H1 a xs) ∧ R (Itl X.K a) H1) ∨ ((∃ xs, SqT X.K H1 a xs) ∧ R (Itt X.K a) H1))) := by
  refine ⟨fun pins s σ H R I h => ?_⟩
  refine thn (hl.run pins s σ H _ I h) fun v s1 ⟨x, H1, I1, r1, q1⟩ => ?_
  obtain ⟨a, e, ⟨⟨xs, hq⟩, q⟩ | ⟨⟨xs, hq⟩, q⟩⟩ := q1
  · subst e
    cases r1
    obtain ⟨its, rv, p, hz⟩ := I1.list hq
    refine wpAny_pyIter_list p.isList ?_
    refine ⟨s1.heap.objs.size, [s1.heap.objs.size], _, _, H1, rfl, I1.kept (t' := s1.toks) fun b o e => Heap.get?_push_of_some _ e, turn_list a _, ⟨_, Heap.get?_push_size _ rfl, rfl, rfl⟩, fun b hb => ?_, q⟩
    have e : b = s1.heap.objs.size := by simpa using hb
    subst e
    exact I1.fpOk (Nat.le_refl _) (I1.hok.fresh (Nat.le_refl _))
  · subst e
    cases r1
    obtain ⟨its, rv, p, hz⟩ := I1.tuple hq
    refine wpAny_pyIter_tuple (show s1.heap.IsTuple a its.toArray from p) ?_
    refine ⟨s1.heap.objs.size, [s1.heap.objs.size], _, _, H1, rfl, I1.kept (t' := s1.toks) fun b o e => Heap.get?_push_of_some _ e, turn_tuple a _, ⟨_, Heap.get?_push_size _ rfl, rfl, rfl⟩, fun b hb => ?_, q⟩
    have e : b = s1.heap.objs.size := by simpa using hb
    subst e
    exact I1.fpOk (Nat.le_refl _) (I1.hok.fresh (Nat.le_refl _))
theorem wc_list {p : Addr} {xs : List CV} {G : CH → Prop} (w : ∀ μ2 h2 H2, ExtT B H μ H2 μ2 → Rel K μ2 h2 H2 → G h2 → ∃ vs, SqL K H2 p vs ∧ (H2 p = some (.lst vs) ∨ ∃ o, H2 p = some (.frz o (.lst vs))) ∧ RVs K H2 μ2 xs vs) : WalkC K B H μ (Itl K p) xs G := by
  intro μ2 h2 H2 e rel g
  obtain ⟨vs, sq, _, rv⟩ := w μ2 h2 H2 e rel g
  have hl := rv.length
  refine ⟨fun i hi => ⟨vs, vs[i]'(by omega), sq, by simp [show i < vs.length by omega]⟩, ⟨vs, sq, by omega⟩, fun i x H' hi y => ?_⟩
  obtain ⟨e', y⟩ := y
  subst e'
  obtain ⟨v, a, b⟩ := rv.get (i := i) (x := xs[i]) (by simp [hi])
  have := y vs sq
  rw [a] at this; cases this
  exact ⟨Ext.refl, rel, _, by simp [hi], b⟩
theorem wc_tup {p : Addr} {xs : List CV} {vs : List V} {G : CH → Prop} (w : ∀ μ2 H2, ExtT B H μ H2 μ2 → SqT K H2 p vs ∧ RVs K H2 μ2 xs vs) : WalkC K B H μ (Itt K p) xs G := by
  intro μ2 h2 H2 e rel g
  obtain ⟨sq, rv⟩ := w μ2 H2 e
  have hl := rv.length
  refine ⟨fun i hi => ⟨vs, vs[i]'(by omega), sq, by simp [show i < vs.length by omega]⟩, ⟨vs, sq, by omega⟩, fun i x H' hi y => ?_⟩
  obtain ⟨e', y⟩ := y
  subst e'
  obtain ⟨v, a, b⟩ := rv.get (i := i) (x := xs[i]) (by simp [hi])
  have := y vs sq
  rw [a] at this; cases this
  exact ⟨Ext.refl, rel, _, by simp [hi], b⟩
theorem i_val {tg e : Expr} {ie : CE} (he : PE X e (tE X.K (wE ie))) : PI X tg e (tI X.K (wI (.val ie))) :=
  PI.imp (pi_seq he) fun σ H R ⟨c, h, μ, k, E, rs, rel, w, hE, ps⟩ => by
    refine ⟨c, h, μ, _, E, rs, rel, w, hE, fun r1 h1 w1 μ1 H1 x e1 rel1 rr1 => ?_⟩
    obtain ⟨xs, eq, w1⟩ := oP_of w1
    · rcases sqOf_or eq with ⟨et, eg⟩ | ⟨_, el⟩
      · obtain ⟨p, vs, rfl, sq, _, wk⟩ := walk_tp rr1.rx et
        exact ⟨p, rfl, .inr ⟨⟨vs, sq⟩, ps _ _ _ w1 μ1 H1 _ e1 rel1 (wc_tup wk)⟩⟩
      · obtain ⟨p, rfl, sq, wk⟩ := walk_ls rel1 rr1 el
        exact ⟨p, rfl, .inl ⟨sq, ps _ _ _ w1 μ1 H1 _ e1 rel1 (wc_list wk)⟩⟩
theorem wc_rng {lo : Int} {n : Nat} {G : CH → Prop} : WalkC K B H μ (Itr lo n) ((List.range n).map fun (k : Nat) => CV.int (lo + (k : Int))) G := by
  intro μ2 h2 H2 e rel g
  rw [List.length_map, List.length_range]
  refine ⟨fun i hi => hi, Nat.le_refl n, fun i x H' hi y => ?_⟩
  obtain ⟨e', y⟩ := y
  subst e' y
  exact ⟨Ext.refl, rel, _, by simp [hi], .int _⟩
theorem i_rng1 {tg a : Expr} {p pos : Pos} {ia : CE} (hg : Gl X "range") (hm : X.mg "range" = none) (ha : PE X a (tE X.K (wE ia))) (hst : stars [a] = false) : PI X tg (.Call (.Name "range" p) [a] [] pos) (tI X.K (wI (.rng1 ia))) :=
  PI.imp (pi_range1 hg hm (pa_cons ha pa_nil (starEach_cons (stars_cons hst).1)) (starEach_cons (stars_cons hst).1)) fun σ H R ⟨c, h, μ, k, E, rs, rel, w, hE, ps⟩ => by
    refine ⟨c, h, μ, _, E, rs, rel, w, hE, fun r1 h1 w1 μ1 H1 x e1 rel1 rr1 => ?_⟩
    dsimp only at w1
    obtain ⟨j, rfl, w1⟩ := inI_of w1
    · refine ⟨j, by rw [rx_int rr1.rx], w1.1.1, w1.1.2, ?_⟩
      refine ps _ _ _ w1.2 μ1 H1 _ e1 rel1 ?_
      have := wc_rng (B := H) (K := X.K) (H := H1) (μ := μ1) (lo := 0) (n := j.toNat) (G := fun _ => True)
      simpa using this
theorem i_rng2 {tg a b : Expr} {p pos : Pos} {ia ib : CE} (hg : Gl X "range") (hm : X.mg "range" = none) (ha : PE X a (tE X.K (wE ia))) (hb : PE X b (tE X.K (wE ib))) (hst : stars [a, b] = false) : PI X tg (.Call (.Name "range" p) [a, b] [] pos) (tI X.K (wI (.rng2 ia ib))) := by
  obtain ⟨s1, s2⟩ := stars_cons hst
  obtain ⟨s3, _⟩ := stars_cons s2
  refine PI.imp (pi_range2 hg hm (pa_cons ha (pa_cons hb pa_nil (starEach_cons s3)) (starEach_cons s1)) (by rw [starEach_cons s1, starEach_cons s3]; rfl) (by rw [starEach_cons s3]; rfl)) fun σ H R ⟨c, h, μ, k, E, rs, rel, w, hE, ps⟩ => ?_
  refine ⟨c, h, μ, _, E, rs, rel, w, hE, fun r1 h1 w1 μ1 H1 x e1 rel1 rr1 => ?_⟩
  refine ⟨c, h1, μ1, _, E, rs.ext e1, rel1, w1, hE, fun r2 h2 w2 μ2 H2 y e2 rel2 rr2 => ?_⟩
  obtain ⟨i, ei, w2⟩ := inI_of w2
  obtain ⟨j, ej, w2⟩ := inI_of w2
  subst ei
  subst ej
  · refine ⟨i, j, by rw [rx_int rr1.rx, rx_int rr2.rx], w2.1, ?_⟩
    exact ps _ _ _ w2.2 μ2 H2 _ (e1.trans e2) rel2 wc_rng
/-- pairs of a number and an item -/
theorem enum_get {xs : List CV} {i : Nat} {c : CV} (e : xs[i]? = some c) : (xs.zipIdx.map fun (x, k) => CV.tup [.int (k : Int), x])[i]? = some (.tup [.int (i : Int), c]) := by
  rw [List.getElem?_map, List.getElem?_zipIdx, e]
  simp
theorem yld_pair {T : Addr} {x y : V} {c d : CV} (rel : Rel K μ h H) (n : H T = none) (r1 : RV K H μ c x) (r2 : RV K H μ d y) : Ext H μ (upd H T (.tup [x, y])) μ ∧ Rel K μ h (upd H T (.tup [x, y])) ∧ RV K (upd H T (.tup [x, y])) μ (.tup [c, d]) (.ref T) :=
  ⟨ext_laid n, rel.laid n, .tup (.inl ⟨.inl upd_same, rel.notMem n⟩) (.cons (r1.ext (ext_laid n)) (.cons (r2.ext (ext_laid n)) .nil))⟩
theorem wc_enumL {p : Addr} {xs : List CV} {G : CH → Prop} (w : ∀ μ2 h2 H2, ExtT B H μ H2 μ2 → Rel K μ2 h2 H2 → G h2 → ∃ vs, SqL K H2 p vs ∧ (H2 p = some (.lst vs) ∨ ∃ o, H2 p = some (.frz o (.lst vs))) ∧ RVs K H2 μ2 xs vs) :
    WalkC K B H μ (Ite K p) (xs.zipIdx.map fun (x, k) => CV.tup [.int (k : Int), x]) G := by
  intro μ2 h2 H2 e rel g
  obtain ⟨vs, sq, _, rv⟩ := w μ2 h2 H2 e rel g
  have hl := rv.length
  rw [List.length_map, List.length_zipIdx]
  refine ⟨fun i hi => ⟨vs, vs[i]'(by omega), sq, by simp [show i < vs.length by omega]⟩, ⟨vs, sq, by omega⟩, fun i x H' hi y => ?_⟩
  obtain ⟨T, u, rfl, n, rfl, y⟩ := y
  obtain ⟨v, a, b⟩ := rv.get (i := i) (x := xs[i]) (by simp [hi])
  have := y vs sq
  rw [a] at this; cases this
  obtain ⟨q1, q2, q3⟩ := yld_pair rel n (.int (i : Nat)) b
  exact ⟨q1, q2, _, enum_get (by simp [hi]), q3⟩
theorem wc_enumT {p : Addr} {xs : List CV} {vs : List V} {G : CH → Prop} (w : ∀ μ2 H2, ExtT B H μ H2 μ2 → SqT K H2 p vs ∧ RVs K H2 μ2 xs vs) : WalkC K B H μ (IteT K p) (xs.zipIdx.map fun (x, k) => CV.tup [.int (k : Int), x]) G := by
  intro μ2 h2 H2 e rel g
  obtain ⟨sq, rv⟩ := w μ2 H2 e
  have hl := rv.length
  rw [List.length_map, List.length_zipIdx]
  refine ⟨fun i hi => ⟨vs, vs[i]'(by omega), sq, by simp [show i < vs.length by omega]⟩, ⟨vs, sq, by omega⟩, fun i x H' hi y => ?_⟩
  obtain ⟨T, u, rfl, n, rfl, y⟩ := y
  obtain ⟨v, a, b⟩ := rv.get (i := i) (x := xs[i]) (by simp [hi])
  have := y vs sq
  rw [a] at this; cases this
  obtain ⟨q1, q2, q3⟩ := yld_pair rel n (.int (i : Nat)) b
  exact ⟨q1, q2, _, enum_get (by simp [hi]), q3⟩
/-- enumerate of a list or a tuple -/
theorem pi_enumA {e : Expr} {te : TE} {p pos tpos : Pos} {elts : List Expr} {kk : Nat} (hg : Gl X "enumerate") (hm : X.mg "enumerate" = none) (he : PE X e te) (hst : stars [e] = false) :
    PI X (.Tuple elts kk tpos) (.Call (.Name "enumerate" p) [e] [] pos) (fun σ H R => te σ H fun x H1 => ∃ a, x = .ref a ∧ (((∃ xs, SqL X.K H1 a xs) ∧ R (Ite X.K a) H1) ∨ ((∃ xs, SqT X.K H1 a xs) ∧ R (IteT X.K a) H1))) := by
  have s1 := (stars_cons hst).1
  refine ⟨fun pins s σ H R I h => ?_⟩
  refine Call_ (ld_blt I hg hm boot_enumerate (PyProof.Rows.callWith_type1 (thn ((pa_cons he pa_nil (starEach_cons s1)).run pos pins s σ H (fun vs H1 => match vs with
    | [x] => ∃ a, x = .ref a ∧ (((∃ xs, SqL X.K H1 a xs) ∧ R (Ite X.K a) H1) ∨ ((∃ xs, SqT X.K H1 a xs) ∧ R (IteT X.K a) H1))
    | _ => False) I h) fun us s1 ⟨vs, H1, I1, r1, q1⟩ => ?_) (starEach_cons s1) rfl))
  cases r1 with
  | nil => exact False.elim q1
  | cons r rr =>
    cases rr with
    | cons _ _ => exact False.elim q1
    | nil =>
      obtain ⟨a, ex, ⟨⟨xs, hq⟩, q⟩ | ⟨⟨xs, hq⟩, q⟩⟩ := q1
      · subst ex
        cases r
        obtain ⟨its, rv, p', hz⟩ := I1.list hq
        refine call_enumerate_list p'.isList fun h' he hit hsz hk => wpAny_pyIter_enum he ?_
        have I2 : Inv X pins σ H1 { s1 with heap := h' } := I1.kept (t' := s1.toks) hk
        refine ⟨s1.heap.objs.size + 1, [s1.heap.objs.size + 1, s1.heap.objs.size], _, _, H1, rfl, I2, turn_enum a (s1.heap.objs.size + 1) s1.heap.objs.size, ⟨⟨.none, he⟩, hit, Nat.succ_ne_self _⟩, fun b hb => ?_, q⟩
        have e' : b = s1.heap.objs.size + 1 ∨ b = s1.heap.objs.size := by simpa using hb
        have hle : s1.heap.objs.size ≤ b := by
          rcases e' with z | z
          · rw [z]; exact Nat.le_add_right _ _
          · rw [z]; exact Nat.le_refl _
        exact I1.fpOk hle (I1.hok.fresh hle)
      · subst ex
        cases r
        obtain ⟨its, rv, p', hz⟩ := I1.tuple hq
        have pT : s1.heap.IsTuple a its.toArray := p'
        have hla : a < s1.heap.objs.size := p'.lt
        refine enum_begins1 (begins_tuple a its.toArray) pT fun h' he hit hsz hk => wpAny_pyIter_enum he ?_
        have I2 : Inv X pins σ H1 { s1 with heap := h' } := I1.kept (t' := s1.toks) hk
        refine ⟨s1.heap.objs.size + 1, [s1.heap.objs.size + 1, s1.heap.objs.size], _, _, H1, rfl, I2, turn_enumT a (s1.heap.objs.size + 1) s1.heap.objs.size, ⟨⟨.none, he⟩, ⟨_, hit, rfl, rfl⟩, Nat.succ_ne_self _, (Nat.ne_of_gt (Nat.lt_succ_of_lt hla)), Nat.ne_of_lt hla⟩, fun b hb => ?_, q⟩
        have e' : b = s1.heap.objs.size + 1 ∨ b = s1.heap.objs.size := by simpa using hb
        have hle : s1.heap.objs.size ≤ b := by
          rcases e' with z | z
          · rw [z]; exact Nat.le_add_right _ _
          · rw [z]; exact Nat.le_refl _
        exact I1.fpOk hle (I1.hok.fresh hle)
theorem i_enum {e : Expr} {p pos tpos : Pos} {elts : List Expr} {kk : Nat} {ie : CE} (hg : Gl X "enumerate") (hm : X.mg "enumerate" = none) (he : PE X e (tE X.K (wE ie))) (hst : stars [e] = false) :
    PI X (.Tuple elts kk tpos) (.Call (.Name "enumerate" p) [e] [] pos) (tI X.K (wI (.enum ie))) :=
  PI.imp (pi_enumA hg hm he hst) fun σ H R ⟨c, h, μ, k, E, rs, rel, w, hE, ps⟩ => by
    refine ⟨c, h, μ, _, E, rs, rel, w, hE, fun r1 h1 w1 μ1 H1 x e1 rel1 rr1 => ?_⟩
    obtain ⟨xs, eq, w1⟩ := oP_of w1
    · rcases sqOf_or eq with ⟨et, eg⟩ | ⟨_, el⟩
      · obtain ⟨p, vs, rfl, sq, _, wk⟩ := walk_tp rr1.rx et
        exact ⟨p, rfl, .inr ⟨⟨vs, sq⟩, ps _ _ _ w1 μ1 H1 _ e1 rel1 (wc_enumT wk)⟩⟩
      · obtain ⟨p, rfl, sq, wk⟩ := walk_ls rel1 rr1 el
        exact ⟨p, rfl, .inl ⟨sq, ps _ _ _ w1 μ1 H1 _ e1 rel1 (wc_enumL wk)⟩⟩
/-- zip -/
theorem zip_get {xs ys : List CV} {i : Nat} {c d : CV} (e1 : xs[i]? = some c) (e2 : ys[i]? = some d) : (List.zipWith (fun x y => CV.tup [x, y]) xs ys)[i]? = some (.tup [c, d]) := by
  rw [List.getElem?_zipWith, e1, e2]
/-- reversed -/
theorem rev_get {α : Type} {xs : List α} {i : Nat} (hi : i < xs.length) : xs.reverse[i]? = xs[xs.length - 1 - i]? := by
  rw [List.getElem?_reverse hi]
theorem i_rev {tg e : Expr} {p pos : Pos} {ie : CE} (hg : Gl X "reversed") (hm : X.mg "reversed" = none) (he : PE X e (tE X.K (wE ie))) (hst : stars [e] = false) : PI X tg (.Call (.Name "reversed" p) [e] [] pos) (tI X.K (wI (.rev ie))) :=
  PI.imp (_root_.RT.pi_revA hg hm he (starEach_cons (stars_cons hst).1)) fun σ H R ⟨c, h, μ, k, E, rs, rel, w, hE, ps⟩ => by
    refine ⟨c, h, μ, _, E, rs, rel, w, hE, fun r1 h1 w1 μ1 H1 x e1 rel1 rr1 => ?_⟩
    obtain ⟨xs, eq, w1⟩ := oP_of w1
    · rcases sqOf_or eq with ⟨et, eg⟩ | ⟨_, el⟩
      · obtain ⟨p, vs, rfl, sq, l, wk⟩ := walk_tp rr1.rx et
        refine ⟨p, vs, rfl, .inr ⟨sq, ps _ _ _ w1 μ1 H1 _ e1 rel1 ?_⟩⟩
        intro μ3 h3 H3 e3 rel3 g3
        obtain ⟨q1, rv1⟩ := wk μ3 H3 e3
        rw [List.length_reverse, ← l]
        refine ⟨fun i hi => ⟨hi, vs, vs[vs.length - 1 - i]'(by omega), q1, by simp [show vs.length - 1 - i < vs.length by omega]⟩, Nat.le_refl _, fun i x H' hi y => ?_⟩
        obtain ⟨rfl, y⟩ := y
        obtain ⟨c0, hc0⟩ : ∃ c0, xs[vs.length - 1 - i]? = some c0 := ⟨_, List.getElem?_eq_getElem (by omega)⟩
        obtain ⟨v, a, b⟩ := rv1.get hc0
        have z := y vs q1
        rw [a] at z; cases z
        exact ⟨Ext.refl, rel3, c0, by rw [rev_get (by omega), ← l]; exact hc0, b⟩
      · obtain ⟨p, rfl, ⟨vs0, sq⟩, wk⟩ := walk_ls rel1 rr1 el
        obtain ⟨p', vs1, ex', sq', rv0, _⟩ := lsOf_sq rel1 rr1.rx el
        cases ex'
        refine ⟨p, vs1, rfl, .inl ⟨sq', ps _ _ _ w1 μ1 H1 _ e1 rel1 ?_⟩⟩
        have l0 := rv0.length
        rw [← l0]
        intro μ3 h3 H3 e3 rel3 g3
        obtain ⟨vs, q1, _, rv1⟩ := wk μ3 h3 H3 e3 rel3 g3
        have l := rv1.length
        rw [List.length_reverse, l]
        refine ⟨fun i hi => ⟨hi, vs, vs[vs.length - 1 - i]'(by omega), q1, by simp [show vs.length - 1 - i < vs.length by omega]⟩, Nat.le_refl _, fun i x H' hi y => ?_⟩
        obtain ⟨rfl, y⟩ := y
        obtain ⟨c0, hc0⟩ : ∃ c0, xs[vs.length - 1 - i]? = some c0 := ⟨_, List.getElem?_eq_getElem (by omega)⟩
        obtain ⟨v, a, b⟩ := rv1.get hc0
        have z := y vs q1
        rw [a] at z; cases z
        exact ⟨Ext.refl, rel3, c0, by rw [rev_get (by omega), l]; exact hc0, b⟩
end
end G

namespace G
open PySem PySem.Spec PyProof.Rows L2
/-! ### targets -/
def tG (K : PySem.W.Frag) (t : CT) : TG := fun v σ H Q => ∃ c h μ x c2, RS K H μ c σ ∧ Rel K μ h H ∧ RV K H μ x v ∧ wG t x c = some c2 ∧ ∀ σ2, RS K H μ c2 σ2 → (∀ i, i ∉ ctN t → σ2[i]? = σ[i]?) → Q σ2 H
def tGs (K : PySem.W.Frag) (t : CTs) : TGs := fun vs σ H Q => ∃ c h μ xs c2, RS K H μ c σ ∧ Rel K μ h H ∧ RVs K H μ xs vs ∧ wGs t xs c = some c2 ∧ ∀ σ2, RS K H μ c2 σ2 → (∀ i, i ∉ ctNs t → σ2[i]? = σ[i]?) → Q σ2 H
def ctLen : CTs → Nat
  | .nil => 0
  | .cons _ r => ctLen r + 1
section
variable {X : Cx} {K : PySem.W.Frag} {H H0 H1 H' : Hp} {μ μ0 μ1 μ' : Mu} {h h1 : CH}
theorem PG.imp {e : Expr} {t t' : TG} (h : PG X e t) (i : ∀ v σ H Q, t' v σ H Q → t v σ H Q) : PG X e t' := ⟨fun pins s σ H v u Q I r q => h.run pins s σ H v u Q I r (i v σ H Q q)⟩
theorem PGs.imp {e : List Expr} {t t' : TGs} (h : PGs X e t) (i : ∀ v σ H Q, t' v σ H Q → t v σ H Q) : PGs X e t' := ⟨fun pins s σ H v u Q I r q => h.run pins s σ H v u Q I r (i v σ H Q q)⟩
theorem g_name {x : Str} {i : Nat} {pos : Pos} (h : PG X (.Name x pos) (gName i)) : PG X (.Name x pos) (tG X.K (.name i)) :=
  PG.imp h fun v σ H Q ⟨c, h, μ, x, c2, rs, rel, rv, w, q⟩ => by
    simp only [wG] at w
    cases w
    exact q _ (rs.put rv) fun j hj => by rw [List.getElem?_set_ne (by simp [ctN] at hj; exact fun e => hj e.symm)]
theorem wGs_len : ∀ {ts : CTs} {xs : List CV} {c c2 : CSt}, wGs ts xs c = some c2 → xs.length = ctLen ts
  | .nil, [], _, _, _ => rfl
  | .nil, _ :: _, _, _, e => by simp [wGs] at e
  | .cons _ _, [], _, _, e => by simp [wGs] at e
  | .cons t r, x :: xs, c, c2, e => by
    simp only [wGs] at e
    cases q : wG t x c with
    | none => rw [q] at e; cases e
    | some c1 =>
      rw [q] at e
      have := wGs_len (ts := r) (xs := xs) (c := c1) e
      simp [ctLen, this]
theorem g_tup {es : List Expr} {k : Nat} {pos : Pos} {ts : CTs} (hc : X.calm = true) (h : PGs X es (tGs X.K ts)) (hn : (assignEach es X.env).length = ctLen ts) (hst : (assignEach es X.env).findIdx? (·.1) = none) : PG X (.Tuple es k pos) (tG X.K (.tup ts)) :=
  PG.imp (pg_tup hc h hn hst) fun v σ H Q ⟨c, h, μ, x, c2, rs, rel, rv, w, q⟩ => by
    cases x <;> try (simp [wG] at w; done)
    rename_i xs
    simp only [wG] at w
    cases rv with
    | tup t r => exact ⟨_, _, rfl, t.sq, by rw [← r.length]; exact wGs_len w, ⟨c, h, μ, xs, c2, rs, rel, r, w, q⟩⟩
theorem gs_nil : PGs X [] (tGs X.K .nil) := PGs.imp pgs_nil fun vs σ H Q ⟨c, h, μ, xs, c2, rs, rel, rv, w, q⟩ => by
  cases rv with
  | nil => simp only [wGs] at w; cases w; exact ⟨rfl, q _ rs fun _ _ => rfl⟩
  | cons a b => simp [wGs] at w
theorem gs_cons {e : Expr} {es : List Expr} {t : CT} {ts : CTs} (h1 : PG X e (tG X.K t)) (h2 : PGs X es (tGs X.K ts)) (hs : (assignEach (e :: es) X.env).map (·.2) = assign e X.env :: (assignEach es X.env).map (·.2)) : PGs X (e :: es) (tGs X.K (.cons t ts)) :=
  PGs.imp (pgs_cons h1 h2 hs) fun vs σ H Q ⟨c, h, μ, xs, c2, rs, rel, rv, w, q⟩ => by
    cases rv with
    | nil => simp [wGs] at w
    | cons a b =>
      simp only [wGs] at w
      cases z : wG t _ c with
      | none => rw [z] at w; cases w
      | some c1 =>
        rw [z] at w
        exact ⟨_, _, rfl, ⟨c, h, μ, _, c1, rs, rel, a, z, fun σ1 rs1 l1 => ⟨c1, h, μ, _, c2, rs1, rel, b, w, fun σ2 rs2 l2 => q σ2 rs2 fun j hj => by
          simp only [ctNs, List.mem_append, not_or] at hj
          rw [l2 j hj.2, l1 j hj.1]⟩⟩⟩

/-! ### statements -/
structure EndOk (K : PySem.W.Frag) (H : Hp) (μ : Mu) (C : CEnds) (D : Ends) : Prop where
  nx : ∀ c' h', C.nx c' h' → ∀ μ' H' σ', Ext H μ H' μ' → Rel K μ' h' H' → RS K H' μ' c' σ' → D.nx σ' H'
  rt : Post K H μ C.rt D.rt
  bk : ∀ c' h', C.bk c' h' → ∀ μ' H' σ', Ext H μ H' μ' → Rel K μ' h' H' → RS K H' μ' c' σ' → D.bk σ' H'
  ct : ∀ c' h', C.ct c' h' → ∀ μ' H' σ', Ext H μ H' μ' → Rel K μ' h' H' → RS K H' μ' c' σ' → D.ct σ' H'
  ex : ∀ x h', ¬ C.ex x h'
theorem EndOk.on {C : CEnds} {D : Ends} (o : EndOk K H μ C D) (e : Ext H μ H1 μ1) (rel : Rel K μ1 h1 H1) : EndOk K H1 μ1 C D :=
  ⟨fun c' h' w μ' H' σ' e' => o.nx c' h' w μ' H' σ' (e.trans e'), o.rt.on e rel, fun c' h' w μ' H' σ' e' => o.bk c' h' w μ' H' σ' (e.trans e'), fun c' h' w μ' H' σ' e' => o.ct c' h' w μ' H' σ' (e.trans e'), o.ex⟩
def tS (K : PySem.W.Frag) (w : CEnds → CSt → CH → Prop) : TS := fun D σ H => ∃ c h μ C, RS K H μ c σ ∧ Rel K μ h H ∧ w C c h ∧ EndOk K H μ C D
theorem b_nil : PSs X [] (tS X.K (wS .skip)) := PSs.imp pss_nil fun D σ H ⟨c, h, μ, C, rs, rel, w, o⟩ => o.nx _ _ w μ H σ Ext.refl rel rs
theorem b_cons {st : Stmt} {r : List Stmt} {a b : CS} (h1 : PS X st (tS X.K (wS a))) (h2 : PSs X r (tS X.K (wS b))) : PSs X (st :: r) (tS X.K (wS (.seq a b))) :=
  PSs.imp (pss_cons h1 h2) fun D σ H ⟨c, h, μ, C, rs, rel, w, o⟩ => ⟨c, h, μ, _, rs, rel, w, ⟨fun c' h' w' μ' H' σ' e' rel' rs' => ⟨c', h', μ', C, rs', rel', w', o.on e' rel'⟩, o.rt, o.bk, o.ct, o.ex⟩⟩
theorem b_one {st : Stmt} {a : CS} (h1 : PS X st (tS X.K (wS a))) : PSs X [st] (tS X.K (wS a)) :=
  PSs.imp (pss_one h1) fun D σ H q => q
theorem b_pass {pos : Pos} : PS X (.Pass pos) (tS X.K (wS .skip)) := PS.imp ps_pass fun D σ H ⟨c, h, μ, C, rs, rel, w, o⟩ => o.nx _ _ w μ H σ Ext.refl rel rs
theorem b_doc {x : Str} {j : Nat} {pos pos' : Pos} : PS X (.Expr (.Constant (.str x) j pos) pos') (tS X.K (wS .skip)) := PS.imp ps_doc fun D σ H ⟨c, h, μ, C, rs, rel, w, o⟩ => o.nx _ _ w μ H σ Ext.refl rel rs
theorem b_brk {pos : Pos} : PS X (.Break pos) (tS X.K (wS .brk)) := PS.imp ps_break fun D σ H ⟨c, h, μ, C, rs, rel, w, o⟩ => o.bk _ _ w μ H σ Ext.refl rel rs
theorem b_cont {pos : Pos} : PS X (.Continue pos) (tS X.K (wS .cont)) := PS.imp ps_continue fun D σ H ⟨c, h, μ, C, rs, rel, w, o⟩ => o.ct _ _ w μ H σ Ext.refl rel rs
theorem b_never {st : Stmt} : PS X st (tS X.K (wS .bad)) := PS.imp ps_never fun D σ H ⟨c, h, μ, C, rs, rel, w, o⟩ => w.elim
theorem b_ret {e : Expr} {pos : Pos} {ie : CE} (he : PE X e (tE X.K (wE ie))) : PS X (.Return (some e) pos) (tS X.K (wS (.ret ie))) :=
  PS.imp (ps_ret he) fun D σ H ⟨c, h, μ, C, rs, rel, w, o⟩ => ⟨c, h, μ, _, _, rs, rel, w, o.ex, o.rt⟩
theorem b_retN {pos : Pos} : PS X (.Return none pos) (tS X.K (wS (.ret (.con .non)))) :=
  PS.imp ps_retN fun D σ H ⟨c, h, μ, C, rs, rel, w, o⟩ => o.rt.v w rel .non
theorem b_expr {e : Expr} {pos : Pos} {ie : CE} (he : PE X e (tE X.K (wE ie))) (hs : swapsWith e none pos.line X.env = pure false) : PS X (.Expr e pos) (tS X.K (wS (.ex ie))) :=
  PS.imp (ps_expr he hs) fun D σ H ⟨c, h, μ, C, rs, rel, w, o⟩ => ⟨c, h, μ, _, _, rs, rel, w, o.ex, fun r h' w' μ' H' x e' rel' rr => o.nx _ _ w' μ' H' σ e' rel' (rs.ext e')⟩
theorem b_if {t : Expr} {a b : List Stmt} {pos : Pos} {it : CB} {ia ib : CS} (ht : PT X t (tB X.K (wB it))) (ha : PSs X a (tS X.K (wS ia))) (hb : PSs X b (tS X.K (wS ib))) : PS X (.If t a b pos) (tS X.K (wS (.ife it ia ib))) :=
  PS.imp (ps_if ht ha hb) fun D σ H ⟨c, h, μ, C, rs, rel, w, o⟩ => by
    refine ⟨c, h, μ, _, _, rs, rel, w, o.ex, fun b1 h1 w1 μ1 H1 e1 rel1 => ?_⟩
    cases b1 with
    | true => exact ⟨c, h1, μ1, C, rs.ext e1, rel1, w1, o.on e1 rel1⟩
    | false => exact ⟨c, h1, μ1, C, rs.ext e1, rel1, w1, o.on e1 rel1⟩
theorem up_rs (up : ∀ c x, RV K H μ c x → RV K H μ' c x) {c : CSt} {σ : L2.St} (rs : RS K H μ c σ) : RS K H μ' c σ := ⟨rs.len, fun i x e => let ⟨v, a, b⟩ := rs.at_ i x e; ⟨v, a, up _ _ b⟩⟩
theorem asg_end {C : CEnds} {D : Ends} {c : CSt} {σ : L2.St} {i : Nat} {r : CR} {x : V} (o : EndOk K H0 μ0 C D) (e : Ext H0 μ0 H μ) (rel : Rel K μ h H) (rs : RS K H μ c σ) (rr : RR K H0 H μ r x) (w : adopt r h fun x h2 => C.nx (sv c i x) h2) : D.nx (σ.set i (some x)) H := by
  obtain ⟨d, h2, μ2, w2, e2, rel2, rv, up⟩ := adopt_ok e rel rr w
  exact o.nx _ _ w2 μ2 H _ e2 rel2 ((up_rs up rs).put rv)
theorem b_set {x : Str} {i : Nat} {pos p : Pos} {e : Expr} {ie : CE} (hset : ∀ te, PE X e te → PS X (.Assign [.Name x p] e pos) (tAsg te (gName i))) (he : PE X e (tE X.K (wE ie))) : PS X (.Assign [.Name x p] e pos) (tS X.K (wS (.asg i ie))) :=
  PS.imp (hset _ he) fun D σ H ⟨c, h, μ, C, rs, rel, w, o⟩ => ⟨c, h, μ, _, _, rs, rel, w, o.ex, fun r h' w' μ' H' x e' rel' rr => asg_end o e' rel' (rs.ext e') rr w'⟩
theorem b_asgT {es : List Expr} {k : Nat} {pos p : Pos} {e : Expr} {ie : CE} {t : CT} (he : PE X e (tE X.K (wE ie))) (hg : PG X (.Tuple es k p) (tG X.K t)) (hs : swapsWithSole [.Tuple es k p] e pos.line X.env = pure false) (hw : swappedStores [.Tuple es k p] e X.env = pure none) :
    PS X (.Assign [.Tuple es k p] e pos) (tS X.K (wS (.asgT t ie))) :=
  PS.imp (ps_asg he hg hs hw rfl) fun D σ H ⟨c, h, μ, C, rs, rel, w, o⟩ => by
    refine ⟨c, h, μ, _, _, rs, rel, w, o.ex, fun r h' w' μ' H' x e' rel' rr => ?_⟩
    dsimp only at w'
    obtain ⟨y, rfl, w'⟩ := inV_of w'
    obtain ⟨c2, eg, w'⟩ := oP_of w'
    exact ⟨c, h', μ', y, c2, rs.ext e', rel', rr, eg, fun σ2 rs2 _ => o.nx _ _ w' μ' H' σ2 e' rel' rs2⟩
/-- the walk's steps, over the invariant -/
theorem b_for {tg iter : Expr} {body : List Stmt} {pos : Pos} {t : CT} {it : CI} {b : CS} (hp : PassesOwn (model X.prog X.w) X.A X.env X.xe) (hc : X.calm = true) (hi : PI X tg iter (tI X.K (wI it))) (hg : PG X tg (tG X.K t)) (hb : PSs X body (tS X.K (wS b)))
    (hs : ∀ x, foldedSetIterable iter X.env x = pure x) : PS X (.For tg iter body [] pos) (tS X.K (wS (.forr t it b))) :=
  PS.imp (ps_for hp hc hi hg hb hs) fun D σ H ⟨c, h, μ, C, rs, rel, w, o⟩ => by
    refine ⟨c, h, μ, _, _, rs, rel, w, o.ex, fun xs G h1 w1 μ1 H1 J e1 rel1 wk => ?_⟩
    obtain ⟨P, p0, pG, pS, pE⟩ := w1
    refine ⟨fun i m σ H => m = xs.length - i ∧ i ≤ xs.length ∧ ∃ c h μ, RS X.K H μ c σ ∧ Rel X.K μ h H ∧ Ext H1 μ1 H μ ∧ P i c h, ⟨xs.length, by simp, Nat.zero_le _, c, h1, μ1, rs.ext e1, rel1, Ext.refl, p0⟩, ?_⟩
    rintro i m σ2 H2 ⟨rfl, hi, c2, h2, μ2, rs2, rel2, e2, p2⟩
    obtain ⟨go, stop, yl⟩ := wk μ2 h2 H2 e2.t rel2 (pG i c2 h2 hi p2)
    by_cases hlt : i < xs.length
    · refine .inr ⟨go i hlt, fun σ3 H3 => ∃ c h μ, RS X.K H3 μ c σ3 ∧ Rel X.K μ h H3 ∧ Ext H1 μ1 H3 μ ∧ P (i + 1) c h, fun σ3 H3 q => ⟨xs.length - (i + 1), by omega, rfl, hlt, q⟩, fun x H3 y => ?_⟩
      obtain ⟨e3, rel3, d, ed, rv⟩ := yl i x H3 hlt y
      have st := pS i d c2 h2 ed p2
      obtain ⟨c3, eg, st⟩ := oP_of st
      · refine ⟨c2, h2, μ2, d, c3, rs2.ext e3, rel3, rv, eg, fun σ4 rs4 _ => ?_⟩
        have e13 := e2.trans e3
        refine ⟨c3, h2, μ2, _, rs4, rel3, st, ⟨fun c' h' w' μ' H' σ' e' rel' rs' => ⟨c', h', μ', rs', rel', e13.trans e', w'⟩, (o.on e1 rel1).rt.on e13 rel3, fun c' h' w' μ' H' σ' e' rel' rs' => o.nx _ _ w' μ' H' σ' (e1.trans (e13.trans e')) rel' rs',
          fun c' h' w' μ' H' σ' e' rel' rs' => ⟨c', h', μ', rs', rel', e13.trans e', w'⟩, o.ex⟩⟩
    · have e : i = xs.length := by omega
      subst e
      exact .inl ⟨stop, o.nx _ _ (pE c2 h2 p2) μ2 H2 σ2 (e1.trans e2) rel2 rs2⟩
theorem b_while {t : Expr} {body : List Stmt} {pos : Pos} {it : CB} {b : CS} (hp : PassesOwn (model X.prog X.w) X.A X.env X.xe) (ht : PT X t (tB X.K (wB it))) (hb : PSs X body (tS X.K (wS b))) : PS X (.While t body [] pos) (tS X.K (wS (.whl it b))) :=
  PS.imp (ps_while hp ht hb) fun D σ H ⟨c, h, μ, C, rs, rel, w, o⟩ => by
    obtain ⟨P, ⟨m0, p0⟩, step⟩ := w
    refine ⟨fun m σ' H' => ∃ c' h' μ', RS X.K H' μ' c' σ' ∧ Rel X.K μ' h' H' ∧ Ext H μ H' μ' ∧ P m c' h', ⟨m0, c, h, μ, rs, rel, Ext.refl, p0⟩, ?_⟩
    rintro m σ1 H1 ⟨c1, h1, μ1, rs1, rel1, e1, p1⟩
    refine ⟨c1, h1, μ1, _, _, rs1, rel1, step m c1 h1 p1, o.ex, fun b1 h2 w2 μ2 H2 e2 rel2 => ?_⟩
    cases b1 with
    | true =>
      obtain ⟨N, hN, w2⟩ := w2
      refine ⟨fun σ3 H3 => ∃ c' h' μ', RS X.K H3 μ' c' σ3 ∧ Rel X.K μ' h' H3 ∧ Ext H μ H3 μ' ∧ N c' h', fun σ3 H3 ⟨c3, h3, μ3, rs3, rel3, e3, n3⟩ => ?_, ?_⟩
      · obtain ⟨m', hm, p3⟩ := hN c3 h3 n3
        exact ⟨m', hm, c3, h3, μ3, rs3, rel3, e3, p3⟩
      · have e12 := e1.trans e2
        exact ⟨c1, h2, μ2, _, rs1.ext e2, rel2, w2, ⟨fun c' h' w' μ' H' σ' e' rel' rs' => ⟨c', h', μ', rs', rel', e12.trans e', w'⟩, o.rt.on e12 rel2, fun c' h' w' μ' H' σ' e' rel' rs' => o.nx _ _ w' μ' H' σ' (e12.trans e') rel' rs',
          fun c' h' w' μ' H' σ' e' rel' rs' => ⟨c', h', μ', rs', rel', e12.trans e', w'⟩, o.ex⟩⟩
    | false => exact o.nx _ _ w2 μ2 H2 σ1 (e1.trans e2) rel2 (rs1.ext e2)
end
end G

/-! tuple[::-1] -/
namespace HT
open PySem PySem.Spec PyProof.Rows
section
variable {prog : Program} {w : World} {A : Around} {E : Value → Shared → Prop} {s : Shared}
theorem adjust_rev (n : Nat) : Builtin.Slice.sliceAdjust none none (-1) (n : Int) = ((n : Int) - 1, -1) := by
  unfold Builtin.Slice.sliceAdjust
  simp
theorem places_rev (n : Nat) : Builtin.Slice.slicePlaces ((n : Int) - 1) (-1) (-1) = n := by
  unfold Builtin.Slice.slicePlaces
  have h1 : ¬ ((-1 : Int) > 0) := by omega
  simp only [h1, if_false]
  split <;> simp <;> omega
theorem sliceApplied_rev {sl : Addr} {vl vu vs : Value} {n : Nat} {Q : Int × Int × Nat → Shared → Prop} (hs : s.heap.IsSliceOf sl vl vu vs) (pl : IsPart vl none) (pu : IsPart vu none) (ps : IsPart vs (some (-1)))
    (h : Q ((n : Int) - 1, -1, n) s) : wpAny (model prog w) A (Builtin.Slice.sliceApplied (.ref sl) (pure (n : Int))) Q E s := by
  obtain ⟨os, hos, hcs, hds⟩ := id hs
  unfold Builtin.Slice.sliceApplied Builtin.Slice.sliceFields
  refine wpAny_bind (wpAny_bind (wpAny_field hos hds (x := vl) rfl (wpAny_bind (wpAny_field hos hds (x := vu) rfl (wpAny_bind (wpAny_field hos hds (x := vs) rfl (wpAny_pure ?_)))))))
  refine wpAny_bind (slicePart_ ps ?_)
  show wpAny _ _ (if ((-1 : Int) == 0) = true then _ else _) _ _ s
  rw [if_neg (by decide)]
  refine wpAny_bind (slicePart_ pl (wpAny_bind (slicePart_ pu (wpAny_bind (wpAny_pure ?_)))))
  show wpAny _ _ (match Builtin.Slice.sliceAdjust none none (-1) (n : Int) with | (lo, hi) => pure (lo, (-1 : Int), Builtin.Slice.slicePlaces lo hi (-1))) _ _ s
  rw [adjust_rev]
  show wpAny _ _ (pure ((n : Int) - 1, (-1 : Int), Builtin.Slice.slicePlaces ((n : Int) - 1) (-1) (-1))) _ _ s
  rw [places_rev]
  exact wpAny_pure h
theorem pick_rev (xs : Array Value) : ((List.range xs.size).filterMap fun (m : Nat) => xs[(((xs.size : Nat) : Int) - 1 + (m : Int) * (-1)).toNat]?).toArray = xs.toList.reverse.toArray := by
  rw [← PySem.W.krv_pick xs]
  show _ = ((sliceRange ((xs.size : Int) - 1) (-1) (-1)).filterMap (xs[·]?)).toArray
  rw [PySem.W.krv_sliceRange, List.filterMap_map]
  congr 2
  funext m
  show xs[(((xs.size : Nat) : Int) - 1 + (m : Int) * (-1)).toNat]? = xs[xs.size - 1 - m]?
  rw [show (((xs.size : Nat) : Int) - 1 + (m : Int) * (-1)).toNat = xs.size - 1 - m by omega]
theorem getItem_tuple_rev {t sl : Addr} {items : Array Value} {vl vu vs : Value} {Q : Value → Shared → Prop} (ht : IsTup s.heap t items) (hs : s.heap.IsSliceOf sl vl vu vs) (pl : IsPart vl none) (pu : IsPart vu none) (ps : IsPart vs (some (-1)))
    (h : Q (.ref s.heap.objs.size) { s with heap := s.heap.push { cls := .type "tuple", data := .seq items.toList.reverse.toArray } })
    (hsz : items.size ≤ sizeLine) : wpAny (model prog w) A (getItem (.ref t) (.ref sl)) Q E s := by
  have htake : sizeOk (.seq items.toList.reverse.toArray) := by
    show items.toList.reverse.toArray.size ≤ sizeLine
    rw [List.size_toArray, List.length_reverse, Array.length_toList]
    omega
  obtain ⟨os, hos, hcs, hds⟩ := id hs
  have hTs : s.TypeIs (.ref sl) "slice" := ⟨os, hos, hcs⟩
  unfold getItem
  try with_reducible refine wpAny_holding ?_
  first | refine wpAny_bind (wpAny_pure ?_) | skip
  refine wpAny_bind (wpAny_sequenceKey ht.typeIs (by decide) ?_)
  refine wpAny_bind (wpAny_callSpecial?_slot (name := Str.ofString "__getitem__") ht.typeIs PyProof.Rows.slot_tuple_getitem
    (wpAny_call_entry PyProof.Rows.slot_tuple_getitem ht.typeIs entry_tuple_getitem ?_ (args_tuple_getitem _ _)))
  show wpAny _ _ (Builtin.Tuple.tupleItemsOf (.ref t) >>= _) _ _ s
  refine wpAny_bind (tupleItemsOf_ ht ?_)
  refine wpAny_bind (wpAny_typeOf hTs ?_)
  rw [if_pos (by decide)]
  refine wpAny_bind (sliceApplied_rev hs pl pu ps ?_)
  have hno : ¬ (((((items.size : Nat) : Int) - 1) == 0 && (-1 : Int) == 1 && items.size == items.size) = true) := by
    intro q
    rw [Bool.and_eq_true, Bool.and_eq_true] at q
    exact absurd q.1.2 (by decide)
  show wpAny _ _ (if ((((items.size : Nat) : Int) - 1) == 0 && (-1 : Int) == 1 && items.size == items.size) = true then _ else _) _ _ s
  rw [if_neg hno, pick_rev]
  first
    | exact wpAny_bind (m := Builtin.Tuple.tupleExact _) (wpAny_newObj_type (wpAny_pure ⟨_, rfl, wpAny_pure h⟩) htake)
    | exact wpAny_bind (m := Builtin.Tuple.tupleExact _) (wpAny_newObj_type (wpAny_bind (wpAny_pure (wpAny_pure ⟨_, rfl, wpAny_pure h⟩))) htake)
    | exact wpAny_bind (wpAny_bind (m := Builtin.Tuple.tupleExact _) (wpAny_newObj_type (wpAny_pure (wpAny_pure ⟨_, rfl, wpAny_pure h⟩)) htake))
    | exact wpAny_bind (wpAny_bind (m := Builtin.Tuple.tupleExact _) (wpAny_newObj_type (wpAny_pure ⟨_, rfl, wpAny_pure h⟩) htake))
end
end HT
namespace L2
open PySem PySem.Spec PyProof.Rows
section
variable {X : Cx}
/-- x[::-1], a list or a tuple -/
def tRevS (K : PySem.W.Frag) (te : TE) : TE := fun σ H Q => te σ H fun x H1 => ∃ a xs, x = .ref a ∧ ((SqL K H1 a xs ∧ ∀ p, H1 p = none → Q (.ref p) (upd H1 p (.lst xs.reverse))) ∨ (SqT K H1 a xs ∧ ∀ p, H1 p = none → Q (.ref p) (upd H1 p (.tup xs.reverse))))
theorem pe_revS {e : Expr} {te : TE} {k : Nat} {p1 p2 p3 pos : Pos} (he : PE X e te) : PE X (.Subscript e (.Slice none none (some (.UnaryOp .USub (.Constant (.int 1) k p1) p2)) p3) pos) (tRevS X.K te) := by
  refine ⟨fun pins s σ H Q I h => ?_⟩
  refine Subscript_ (thn (he.run pins s σ H _ I h) fun v s1 ⟨x, H1, I1, r1, q1⟩ => ?_)
  obtain ⟨a, xs, ex, q⟩ := q1
  subst ex
  cases r1
  have hst : PO X (some (.UnaryOp .USub (.Constant (.int 1) k p1) p2)) (tPart (tUn (rU fun i => .int (-i)) (tC (.int 1)))) := po_some (pe_un un_neg pe_int)
  refine wpAny_Slice (thn (po_none.run pins s1 σ H1 (fun o H2 => o = none ∧ H2 = H1) I1 ⟨rfl, rfl⟩) fun vl s2 ⟨l, H2, I2, pl, el, e2⟩ => ?_)
  subst el e2
  refine thn (po_none.run pins s2 σ H2 (fun o H3 => o = none ∧ H3 = H2) I2 ⟨rfl, rfl⟩) fun vu s3 ⟨u, H3, I3, pu, eu, e3⟩ => ?_
  subst eu e3
  refine thn (hst.run pins s3 σ H3 (fun o H4 => o = some (-1) ∧ H4 = H3) I3 ⟨1, rfl, -1, rfl, rfl, rfl⟩) fun vs s4 ⟨o, H4, I4, ps, eo, e4⟩ => ?_
  subst eo e4
  have I5 : Inv X pins σ H4 { s4 with heap := s4.heap.push { cls := .type "slice", data := .fields #[vl, vu, vs] } } := I4.kept (t' := s4.toks) fun b ob q => Heap.get?_push_of_some _ q
  rcases q with ⟨hx, q⟩ | ⟨hx, q⟩
  · obtain ⟨its, r, ht, hz⟩ := I5.list hx
    have hlen := r.length
    show wpAny (model X.prog X.w) X.A (subscriptTail e (.Slice none none (some (.UnaryOp .USub (.Constant (.int 1) k p1) p2)) p3) (.ref a) (.ref s4.heap.objs.size)) (EP X pins σ Q) X.xe { s4 with heap := s4.heap.push { cls := .type "slice", data := .fields #[vl, vu, vs] } }
    refine tail_any (ops := [.ref a, .ref s4.heap.objs.size]) ht.isList.typeIs (PySem.slot_list_getitem.lookup) ?_ (by with_unfolding_all rfl)
    refine wpAny_getItem_list_slice ht.isList (Heap.IsSliceOf.new _ vl vu vs) pl pu ps (by decide) ?_ (by rw [List.size_toArray]; omega)
    rw [PySem.W.krv_pick]
    refine ⟨.ref _, _, I5.laid (t' := s4.toks) (o := .lst xs.reverse) (fun b ob q => Heap.get?_push_of_some _ q) (Nat.le_refl _) ?_, rfl, q _ (I5.hok.fresh (Nat.le_refl _))⟩
    exact ⟨by rw [List.length_reverse]; exact hz, _, 0, r.reverse, Heap.get?_push_size _ rfl⟩
  · obtain ⟨its, r, ht, hz⟩ := I5.tuple hx
    have hlen := r.length
    show wpAny (model X.prog X.w) X.A (subscriptTail e (.Slice none none (some (.UnaryOp .USub (.Constant (.int 1) k p1) p2)) p3) (.ref a) (.ref s4.heap.objs.size)) (EP X pins σ Q) X.xe { s4 with heap := s4.heap.push { cls := .type "slice", data := .fields #[vl, vu, vs] } }
    refine tail_any (ops := [.ref a, .ref s4.heap.objs.size]) ht.typeIs (PyProof.Rows.slot_tuple_getitem.lookup) ?_ (by with_unfolding_all rfl)
    refine HT.getItem_tuple_rev ht (Heap.IsSliceOf.new _ vl vu vs) pl pu ps ?_ (by rw [List.size_toArray]; omega)
    refine ⟨.ref _, _, I5.laid (t' := s4.toks) (o := .tup xs.reverse) (fun b ob q => Heap.get?_push_of_some _ q) (Nat.le_refl _) ?_, rfl, q _ (I5.hok.fresh (Nat.le_refl _))⟩
    exact ⟨by rw [List.length_reverse]; exact hz, _, r.reverse, IsTup.new _ _⟩
end
end L2

namespace G
open PySem PySem.Spec PyProof.Rows L2
section
variable {X : Cx} {K : PySem.W.Frag} {H H0 H1 H' : Hp} {μ μ0 μ1 μ' : Mu} {h h1 : CH}
/-- ints, in place -/
def rI2 (op : Operator) : R2 := fun x y H Q => ∃ i j, x = .int i ∧ y = .int j ∧ binA op i j fun n => Q (.int n) H
theorem op_ibin (op : Operator) : OpR X (inplaceOp op) (rI2 op) := by
  intro pins s σ H x y v u Q I rx ry ⟨i, j, e1, e2, w⟩
  subst e1 e2
  cases op <;> try exact False.elim w
  · exact iop_add pins s σ H _ _ v u Q I rx ry ⟨i, j, rfl, rfl, w⟩
  · exact iop_sub pins s σ H _ _ v u Q I rx ry ⟨i, j, rfl, rfl, w⟩
  · rcases w.1 with c | c
    · exact iop_mul pins s σ H _ _ v u Q I rx ry ⟨i, j, rfl, rfl, c, w.2⟩
    · obtain ⟨t, rfl⟩ := rx
      obtain ⟨t', rfl⟩ := ry
      exact imul_int ⟨.int _, H, I.tok _, ⟨_, rfl⟩, w.2⟩ (CMulW.ok (wide_mul c.1 c.2 (by decide) (by decide) (by decide)))
  · exact iop_mod pins s σ H _ _ v u Q I rx ry ⟨i, j, rfl, rfl, w⟩
  · exact iop_fdivW pins s σ H _ _ v u Q I rx ry ⟨i, j, rfl, rfl, CDv.wide w.1, w.2⟩
theorem b_aug {x : Str} {i : Nat} {pos p : Pos} {e : Expr} {op : Operator} {ie : CE} {te : TE} (hN : X.N.Nodup) (hi : X.N[i]? = some x) (hx : Loc X.env.scope x) (hf : X.fn x = true ∨ X.env.scope.names.lookup x = some .local) (he : PE X e (tE X.K (wE ie))) :
    PS X (.AugAssign (.Name x p) op e pos) (tS X.K (wS (.aug op i ie))) :=
  PS.imp (ps_aug hN hi hx he (show PIp X op (rI2 op) from fun pins s σ H x y v u Q I rx ry q => op_ibin op pins s σ H x y v u Q I rx ry q) hf) fun D σ H ⟨c, h, μ, C, rs, rel, w, o⟩ => by
    simp only [wS] at w
    obtain ⟨n, en, w⟩ := vI_of w
    · obtain ⟨v, ev, rv⟩ := rs.at_ i _ en
      cases rv
      refine ⟨_, ev, c, h, μ, _, _, rs, rel, w, o.ex, fun r h' w' μ' H' y e' rel' rr => ?_⟩
      obtain ⟨m, rfl, w'⟩ := inI_of w'
      · refine ⟨n, m, rfl, rx_int rr.rx, ?_⟩
        have fin : ∀ z, C.nx (sv c i (.int z)) h' → D.nx (σ.set i (some (.int z))) H' := fun z q => o.nx _ _ q μ' H' _ e' rel' ((rs.ext e').put (.int z))
        cases op <;> first | exact False.elim w' | exact fin _ w' | exact ⟨w'.1, fin _ w'.2⟩
/-- o[i] = e -/
theorem b_setIx {oE iE e : Expr} {pos p : Pos} {io ii ie : CE} (he : PE X e (tE X.K (wE ie))) (ho : PE X oE (tE X.K (wE io))) (hi : PE X iE (tE X.K (wE ii)))
    (ha : ∀ v, assign (.Subscript oE iE p) X.env v = (do
      let ov ← holding [v] (eval oE X.env)
      let iv ← holding [v, ov] (eval iE X.env)
      standAt p
      holding [v, ov, iv] (setItem ov iv v)
      release [v, ov, iv] [])) (hs : swapsWithSole [.Subscript oE iE p] e pos.line X.env = pure false) (hw : swappedStores [.Subscript oE iE p] e X.env = pure none) :
    PS X (.Assign [.Subscript oE iE p] e pos) (tS X.K (wS (.setIx io ii ie))) :=
  PS.imp (ps_asg he (pg_sub ho hi set_list ha) hs hw rfl) fun D σ H ⟨c, h, μ, C, rs, rel, w, o⟩ => by
    refine ⟨c, h, μ, _, _, rs, rel, w, o.ex, fun r1 h1 w1 μ1 H1 x e1 rel1 rr1 => ?_⟩
    obtain ⟨d, h2, μ2, w2, e2, rel2, rv, up⟩ := adopt_ok e1 rel1 rr1 w1
    refine ⟨c, h2, μ2, _, _, up_rs up (rs.ext e1), rel2, w2, o.ex, fun r3 h3 w3 μ3 H3 y e3 rel3 rr3 => ?_⟩
    refine ⟨c, h3, μ3, _, _, (up_rs up (rs.ext e1)).ext e3, rel3, w3, o.ex, fun r4 h4 w4 μ4 H4 z e4 rel4 rr4 => ?_⟩
    unfold stIx at w4
    dsimp only at w4
    split at w4
    · rename_i a k
      have ra := RR.on e4 rr3
      cases ra with
      | ref ha =>
      rename_i q
      obtain ⟨ob, hob, ro⟩ := rel4.at ha
      rw [hob] at w4
      cases ob with
      | fro ys => exact False.elim w4
      | ins C fs => exact False.elim w4
      | lst ys =>
        obtain ⟨vs, hp, rvs⟩ := ro
        obtain ⟨j, ej, w4⟩ := oP_of w4
        · refine ⟨q, vs, k, j, rfl, rx_int rr4.rx, hp, by rw [← rvs.length]; exact ej, ?_⟩
          have m := List.mem_of_getElem? ha
          have x1 : Ext H4 μ4 (upd H4 q (.lst (vs.set j x))) μ4 := ext_upd rel4 m
          exact o.nx _ _ w4 μ4 _ σ (e2.trans (e3.trans (e4.trans x1))) (rel4.put ha ⟨_, upd_same, (rvs.ext x1).set ((rv.ext (e3.trans e4)).ext x1) j⟩) ((((up_rs up (rs.ext e1)).ext e3).ext e4).ext x1)
    · exact False.elim w4
/-- o.f = e -/
theorem b_setFld {oE e : Expr} {f : Str} {pos p : Pos} {io ie : CE} {cs : List Addr} (he : PE X e (tE X.K (wE ie))) (ho : PE X oE (tE X.K (wE io))) (hk : ∀ C, C ∈ cs → Cls X.K C ∧ NoAttr X.K C f) (hs : swapsWith e (some (.Attribute oE f p)) pos.line X.env = pure false) :
    PS X (.Assign [.Attribute oE f p] e pos) (tS X.K (wS (.setFld io f cs ie))) :=
  PS.imp (ps_fld ho he hs) fun D σ H ⟨c, h, μ, C, rs, rel, w, o⟩ => by
    refine ⟨c, h, μ, _, _, rs, rel, w, o.ex, fun r1 h1 w1 μ1 H1 x e1 rel1 rr1 => ?_⟩
    obtain ⟨d, h2, μ2, w2, e2, rel2, rv, up⟩ := adopt_ok e1 rel1 rr1 w1
    refine ⟨c, h2, μ2, _, _, up_rs up (rs.ext e1), rel2, w2, o.ex, fun r3 h3 w3 μ3 H3 y e3 rel3 rr3 => ?_⟩
    unfold stFld at w3
    dsimp only at w3
    split at w3
    · rename_i a
      cases rr3 with
      | ref ha =>
      rename_i q
      obtain ⟨ob, hob, ro⟩ := rel3.at ha
      rw [hob] at w3
      cases ob with
      | fro ys => exact False.elim w3
      | lst ys => exact False.elim w3
      | ins C fs =>
        obtain ⟨dx, vs, hp, rf⟩ := ro
        obtain ⟨⟨hm, hl⟩, w3⟩ := w3
        refine ⟨q, C, dx, vs, rfl, hp, (hk C hm).1, (hk C hm).2, by rw [← rf.length]; exact hl, ?_⟩
        have m := List.mem_of_getElem? ha
        have x1 : Ext H3 μ3 (upd H3 q (.ins C dx (putF f x vs))) μ3 := ext_upd rel3 m
        exact o.nx _ _ w3 μ3 _ σ (e2.trans (e3.trans x1)) (rel3.put ha ⟨_, _, upd_same, (rf.ext x1).put ((rv.ext e3).ext x1)⟩) (((up_rs up (rs.ext e1)).ext e3).ext x1)
    · exact False.elim w3
/-- o.f op= e -/
theorem b_augFld {oE e : Expr} {f : Str} {op : Operator} {pos p : Pos} {io ie : CE} {cs : List Addr} (he : PE X e (tE X.K (wE ie))) (ho : PE X oE (tE X.K (wE io))) (hk : ∀ C, C ∈ cs → Cls X.K C ∧ NoAttr X.K C f) :
    PS X (.AugAssign (.Attribute oE f p) op e pos) (tS X.K (wS (.augFld op io f cs ie))) :=
  PS.imp (ps_fldaug (rd := rI2 op) ho he (fun pins s σ H x y u v Q I rx ry q => op_ibin op pins s σ H x y u v Q I rx ry q)) fun D σ H ⟨c, h, μ, C, rs, rel, w, o⟩ => by
    refine ⟨c, h, μ, _, _, rs, rel, w, o.ex, fun r1 h1 w1 μ1 H1 x e1 rel1 rr1 => ?_⟩
    unfold agFld at w1
    dsimp only at w1
    split at w1
    · rename_i a
      cases rr1 with
      | ref ha =>
      rename_i q
      obtain ⟨ob, hob, ro⟩ := rel1.at ha
      rw [hob] at w1
      cases ob with
      | fro ys => exact False.elim w1
      | lst ys => exact False.elim w1
      | ins Cc fs =>
        obtain ⟨dx, vs, hp, rf⟩ := ro
        obtain ⟨hm, hl, w1⟩ := w1
        obtain ⟨n, en, w1⟩ := vI_of w1
        · obtain ⟨v, ev, rv⟩ := rf.look en
          cases rv
          refine ⟨q, Cc, dx, vs, _, rfl, hp, (hk Cc hm).1, (hk Cc hm).2, ev, c, h1, μ1, _, _, rs.ext e1, rel1, w1, o.ex, fun r2 h2 w2 μ2 H2 y e2 rel2 rr2 => ?_⟩
          obtain ⟨m, rfl, w2⟩ := inI_of w2
          · obtain ⟨hob2, w2⟩ := w2
            have ha2 := get_pre e2.pre ha
            obtain ⟨dx2, vs2, hp2, rf2⟩ := rel2.ob a _ q hob2 ha2
            refine ⟨n, m, rfl, rx_int rr2.rx, ?_⟩
            have fin : ∀ z, C.nx c (h2.set a (.ins Cc (putC f (.int z) fs))) → ∃ dx' fs', H2 q = some (.ins Cc dx' fs') ∧ fs'.length < 1000 ∧ D.nx σ (upd H2 q (.ins Cc dx' (putF f (.int z) fs'))) := fun z w3 => by
              refine ⟨dx2, vs2, hp2, by rw [← rf2.length]; exact hl, ?_⟩
              have mm := List.mem_of_getElem? ha2
              have x1 : Ext H2 μ2 (upd H2 q (.ins Cc dx2 (putF f (.int z) vs2))) μ2 := ext_upd rel2 mm
              exact o.nx _ _ w3 μ2 _ σ (e1.trans (e2.trans x1)) (rel2.put ha2 ⟨_, _, upd_same, (rf2.ext x1).put (.int z)⟩) (((rs.ext e1).ext e2).ext x1)
            cases op <;> first | exact False.elim w2 | exact fin _ w2 | exact ⟨w2.1, fin _ w2.2⟩
    · exact False.elim w1
/-- a list that is to be changed later -/
theorem s_thaw {e : Expr} {ie : CE} (he : PE X e (tE X.K (wE ie))) : PE X e (tE X.K (wE (.thaw ie))) :=
  PE.imp he fun σ H Q ⟨c, h, μ, k, E, rs, rel, w, hE, ps⟩ => by
    refine ⟨c, h, μ, _, E, rs, rel, w, hE, fun r h1 w1 μ1 H1 x e1 rel1 rr1 => ?_⟩
    cases r with
    | v d => exact ps _ _ w1 μ1 H1 x e1 rel1 rr1
    | al xs =>
      obtain ⟨p, vs, rfl, f, n, hp, rv⟩ := rr1
      refine ps _ _ w1 (μ1.add p) H1 _ (ext_add e1 f) (rel1.adopt n hp rv) (show RV X.K H1 (μ1.add p) (.ref _) (.ref p) from .ref ?_)
      rw [← rel1.len]
      simp [Mu.add]
/-- x[::-1] -/
theorem s_srev {e : Expr} {k : Nat} {p1 p2 p3 pos : Pos} {ie : CE} (he : PE X e (tE X.K (wE ie))) : PE X (.Subscript e (.Slice none none (some (.UnaryOp .USub (.Constant (.int 1) k p1) p2)) p3) pos) (tE X.K (wE (.srev ie))) :=
  PE.imp (pe_revS he) fun σ H Q ⟨c, h, μ, k, E, rs, rel, w, hE, ps⟩ => by
    refine ⟨c, h, μ, _, E, rs, rel, w, hE, fun r1 h1 w1 μ1 H1 x e1 rel1 rr1 => ?_⟩
    unfold srR at w1
    dsimp only at w1
    split at w1
    · obtain ⟨p, vs, rfl, t, rv, _⟩ := tpOf_sq rr1.rx rfl
      exact ⟨p, vs, rfl, .inr ⟨t.sq, fun q n => (ps.on e1 rel1).tup w1 rel1 rv.reverse n⟩⟩
    · obtain ⟨xs, eq, w1⟩ := oP_of w1
      obtain ⟨p, vs, rfl, sq, rv, _⟩ := lsOf_sq rel1 rr1.rx eq
      exact ⟨p, vs, rfl, .inl ⟨sq, fun q n => (ps.on e1 rel1).al w1 rel1 rv.reverse n⟩⟩
/-! ### methods of lists -/
def rBm (K : PySem.W.Frag) (R : CR → List CV → CH → WQ → Prop) : V → List V → Hp → VK → Prop := fun x xs H Q => ∃ h μ a cs k, Rel K μ h H ∧ RX K H μ a x ∧ RVs K H μ cs xs ∧ R a cs h k ∧ Post K H μ k Q
structure BmOk (X : Cx) (m : Str) (b : Bm) : Prop where
  ex : ∃ id, Slot "list" m id ∧ typeOf (.builtin id) = pure (.type "method_descriptor") ∧ MtR X id (rBm X.K (bmR b))
theorem few_of {pos : Pos} {es : List Expr} {env : Env} (hst : stars es = false) (hn : es.length < 30) : ((backTo pos (starEach es env)).all (fun x => !x.1) && (backToKw pos (keywordEach [] env)).all (fun x => x.1.isSome)
      && decide (es.length + ([] : List Keyword).length + (if ([] : List Keyword).isEmpty then 0 else 1) < 30)) = true := by
  rw [any_all (plain_of hst)]
  show (true && true && decide (es.length + 0 + 0 < 30)) = true
  simp [hn]
theorem s_bm {o : Expr} {m : Str} {b : Bm} {apos pos : Pos} {es : List Expr} {io : CE} {ia : CA} (B : BmOk X m b) (ho : PE X o (tE X.K (wE io))) (ha : PA X es (tA X.K (wA ia))) (h0 : es = [] → ia = .nil) (hst : stars es = false) (hc : isCall o = false)
    (hn : es.length < 30) (hl : (apos.endLine == pos.line) = true) : PE X (.Call (.Attribute o m apos) es [] pos) (tE X.K (wE (.bm b io ia))) := by
  obtain ⟨id, slot, hty, hm⟩ := B.ex
  cases es with
  | nil =>
    have e0 := h0 rfl
    subst e0
    refine PE.imp (pe_bm0 PySem.F.plainAttrs_list slot hty hm ho (abase hc) hl) fun σ H Q ⟨c, h, μ, k, E, rs, rel, w, hE, ps⟩ => ?_
    refine ⟨c, h, μ, _, E, rs, rel, w, hE, fun r1 h1 w1 μ1 H1 x e1 rel1 rr1 => ?_⟩
    obtain ⟨hls, w1⟩ := w1
    obtain ⟨xs, eq⟩ := Option.isSome_iff_exists.mp hls
    obtain ⟨p, vs, rfl, sq, rv, _⟩ := lsOf_sq rel1 rr1.rx eq
    exact ⟨.inl ⟨rfl, vs, sq⟩, h1, μ1, r1, [], k, rel1, rr1.rx, .nil, w1, ps.on e1 rel1⟩
  | cons e es =>
    obtain ⟨sa, sb⟩ := stars_cons hst
    refine PE.imp (pe_bm PySem.F.plainAttrs_list slot hty hm ho ha (abase hc) (few_of hst hn) hl (starEach_cons sa) (plain_of sb)) fun σ H Q ⟨c, h, μ, k, E, rs, rel, w, hE, ps⟩ => ?_
    refine ⟨c, h, μ, _, E, rs, rel, w, hE, fun r1 h1 w1 μ1 H1 x e1 rel1 rr1 => ?_⟩
    obtain ⟨hls, w1⟩ := w1
    obtain ⟨xs, eq⟩ := Option.isSome_iff_exists.mp hls
    obtain ⟨p, vs, rfl, sq, rv, _⟩ := lsOf_sq rel1 rr1.rx eq
    refine ⟨.inl ⟨rfl, vs, sq⟩, c, h1, μ1, _, E, rs.ext e1, rel1, w1, hE, fun rs2 h2 w2 μ2 H2 ys e2 rel2 rr2 => ?_⟩
    obtain ⟨cs, h3, μ3, w3, e3, rel3, rv3, up⟩ := adopts_ok e2 rel2 rr2 w2
    have rx3 : RX X.K H2 μ3 r1 (.ref p) := by
      have q := rr1.rx.ext e3
      exact q
    exact ⟨h3, μ3, r1, cs, k, rel3, rx3, rv3, w3, ps.on (e1.trans e3) rel3⟩
theorem bmF_no {xs rs : List CV} : bmF .append xs rs = none ∧ bmF .extend xs rs = none := by
  constructor <;> (unfold bmF; split <;> first | rfl | (rename_i z; cases z))
theorem append_cases {o : CR} {rs : List CV} {k : WQ} (w : bmR .append o rs h k) : ∃ a xs x, o = .v (.ref a) ∧ rs = [x] ∧ h[a]? = some (.lst xs) ∧ xs.length < sizeLine ∧ k (.v .non) (h.set a (.lst (xs ++ [x]))) := by
  replace w : bmM _ _ _ _ _ := w
  unfold bmM at w
  split at w
  · split at w
    · exact ⟨_, _, _, rfl, rfl, by assumption, w⟩
    · rename_i q; cases q
    · obtain ⟨q, eq, _⟩ := oP_of w
      rw [bmF_no.1] at eq; cases eq
    · exact False.elim w
  · exact False.elim w
theorem extend_cases {o : CR} {rs : List CV} {k : WQ} (w : bmR .extend o rs h k) : ∃ a xs y ys, o = .v (.ref a) ∧ rs = [y] ∧ h[a]? = some (.lst xs) ∧ lsM (.v y) h = some ys ∧ xs.length + ys.length ≤ sizeLine ∧ k (.v .non) (h.set a (.lst (xs ++ ys))) := by
  replace w : bmM _ _ _ _ _ := w
  unfold bmM at w
  split at w
  · split at w
    · rename_i q; cases q
    · obtain ⟨ys, e, w⟩ := oP_of w
      exact ⟨_, _, _, ys, rfl, rfl, by assumption, e, w⟩
    · obtain ⟨q, eq, _⟩ := oP_of w
      rw [bmF_no.2] at eq; cases eq
    · exact False.elim w
  · exact False.elim w
/-- the other methods that change a list -/
theorem bmF_cases {m : Bm} {o : CR} {rs : List CV} {k : WQ} (hm : m = .remove ∨ m = .pop ∨ m = .insert ∨ m = .reverse ∨ m = .clear) (w : bmR m o rs h k) : ∃ a xs y ys, o = .v (.ref a) ∧ h[a]? = some (.lst xs) ∧ bmF m xs rs = some (y, ys) ∧ k (.v y) (h.set a (.lst ys)) := by
  have w' : bmM m o rs h k := by rcases hm with rfl | rfl | rfl | rfl | rfl <;> exact w
  unfold bmM at w'
  split at w'
  · split at w'
    · rcases hm with z | z | z | z | z <;> cases z
    · rcases hm with z | z | z | z | z <;> cases z
    · obtain ⟨q, eq, w'⟩ := oP_of w'
      exact ⟨_, _, q.1, q.2, rfl, by assumption, eq, w'⟩
    · exact False.elim w'
  · exact False.elim w'
theorem bm_mut {m : Str} {b : Bm} {id : String} {r : V → List V → Hp → VK → Prop} (hm : b = .remove ∨ b = .pop ∨ b = .insert ∨ b = .reverse ∨ b = .clear) (sl : Slot "list" m id) (ty : typeOf (.builtin id) = pure (.type "method_descriptor")) (hr : MtR X id r)
    (hf : ∀ {xs cs ys : List CV} {y : CV} {vs us : List V} {p : Addr} {μ : Mu} {H : Hp} {Q : VK}, bmF b xs cs = some (y, ys) → RVs X.K H μ xs vs → RVs X.K H μ cs us → H p = some (.lst vs) → (∀ x ws, RV X.K H μ y x → RVs X.K H μ ys ws → Q x (upd H p (.lst ws))) → r (.ref p) us H Q) : BmOk X m b :=
  ⟨id, sl, ty, fun pins s σ H x xs v us Q I rx rxs ⟨h, μ, a, cs, k, rel, ra, rv, w, ps⟩ => by
    obtain ⟨i, zs, y, ys, rfl, e0, ef, w⟩ := bmF_cases hm w
    obtain ⟨p, rfl, ha⟩ : ∃ p, x = .ref p ∧ μ.l[i]? = some p := by
      cases ra with
      | ref ha => exact ⟨_, rfl, ha⟩
    obtain ⟨vs, hp, rvs⟩ := rel.ob i _ p e0 ha
    have m := List.mem_of_getElem? ha
    refine hr pins s σ H _ _ v us Q I rx rxs (hf ef rvs rv hp fun z ws rz rws => ?_)
    have x1 : Ext H μ (upd H p (.lst ws)) μ := ext_upd rel m
    exact ps _ _ w μ _ _ x1 (rel.put ha ⟨_, upd_same, rws.ext x1⟩) (show RV _ _ _ y z from rz.ext x1)⟩
theorem RVs.erase : ∀ {xs : List CV} {vs : List V}, RVs K H μ xs vs → ∀ j : Nat, RVs K H μ (xs.eraseIdx j) (vs.eraseIdx j)
  | _, _, .nil, _ => .nil
  | _, _, .cons _ t, 0 => t
  | _, _, .cons a t, j + 1 => .cons a (RVs.erase t j)
theorem RVs.dropLast {xs : List CV} {vs : List V} (h : RVs K H μ xs vs) : RVs K H μ xs.dropLast vs.dropLast := by
  rw [List.dropLast_eq_take, List.dropLast_eq_take, ← h.length]
  exact h.take _
theorem findIdx_first {ns : List Int} {k : Int} {j : Nat} (e : ns.findIdx? (· == k) = some j) : ns[j]? = some k ∧ ∀ m : Nat, m < j → ns[m]? ≠ some k := by
  rw [List.findIdx?_eq_some_iff_getElem] at e
  obtain ⟨hj, a, b⟩ := e
  refine ⟨by rw [List.getElem?_eq_getElem hj]; simpa using a, fun m hm z => ?_⟩
  have := b m hm
  rw [List.getElem?_eq_getElem (by omega)] at z
  simp at this z
  exact this z
theorem bm_append : BmOk X "append" .append := ⟨"list.append", PySem.F.slot_list_append, PySem.F.type_list_append, fun pins s σ H x xs v us Q I rx rxs ⟨h, μ, a, cs, k, rel, ra, rv, w, ps⟩ => by
  obtain ⟨i, ys, y, rfl, rfl, e0, hz, w⟩ := append_cases w
  obtain ⟨p, rfl, ha⟩ : ∃ p, x = .ref p ∧ μ.l[i]? = some p := by
    cases ra with
    | ref ha => exact ⟨_, rfl, ha⟩
  obtain ⟨vs, hp, rvs⟩ := rel.ob i _ p e0 ha
  obtain ⟨z, rfl, b1⟩ : ∃ z, xs = [z] ∧ RV X.K H μ y z := by
    cases rv with
    | cons b1 b2 => cases b2; exact ⟨_, rfl, b1⟩
  have m := List.mem_of_getElem? ha
  refine mt_append pins s σ H _ _ v us Q I rx rxs ⟨p, vs, _, rfl, rfl, hp, by rw [← rvs.length]; exact hz, ?_⟩
  have x1 : Ext H μ (upd H p (.lst (vs ++ [z]))) μ := ext_upd rel m
  exact ps _ _ w μ _ _ x1 (rel.put ha ⟨_, upd_same, (rvs.ext x1).append (.cons (b1.ext x1) .nil)⟩) .non⟩
theorem bm_extend : BmOk X "extend" .extend := ⟨"list.extend", PySem.F.slot_list_extend, PySem.F.type_list_extend, fun pins s σ H x xs v us Q I rx rxs ⟨h, μ, a, cs, k, rel, ra, rv, w, ps⟩ => by
  obtain ⟨i, ys, y, zs, rfl, rfl, e0, e1, hz, w⟩ := extend_cases w
  obtain ⟨p, rfl, ha⟩ : ∃ p, x = .ref p ∧ μ.l[i]? = some p := by
    cases ra with
    | ref ha => exact ⟨_, rfl, ha⟩
  obtain ⟨vs, hp, rvs⟩ := rel.ob i _ p e0 ha
  obtain ⟨z, rfl, b1⟩ : ∃ z, xs = [z] ∧ RV X.K H μ y z := by
    cases rv with
    | cons b1 b2 => cases b2; exact ⟨_, rfl, b1⟩
  obtain ⟨q, ws, rfl, hq, rws⟩ := lsM_of rel (show RX X.K H μ (.v y) z from b1) e1
  have m := List.mem_of_getElem? ha
  refine mt_extend pins s σ H _ _ v us Q I rx rxs ⟨p, q, vs, ws, rfl, rfl, hp, hq, by rw [← rvs.length, ← rws.length]; exact hz, ?_⟩
  have x1 : Ext H μ (upd H p (.lst (vs ++ ws))) μ := ext_upd rel m
  exact ps _ _ w μ _ _ x1 (rel.put ha ⟨_, upd_same, (rvs.ext x1).append (rws.ext x1)⟩) .non⟩
theorem vs1 {x : CV} {us : List V} (h : RVs K H μ [x] us) : ∃ v, us = [v] ∧ RV K H μ x v := by
  cases h with
  | cons a b => cases b; exact ⟨_, rfl, a⟩
theorem vs2 {x y : CV} {us : List V} (h : RVs K H μ [x, y] us) : ∃ v u, us = [v, u] ∧ RV K H μ x v ∧ RV K H μ y u := by
  cases h with
  | cons a b => obtain ⟨u, rfl, c⟩ := vs1 b; exact ⟨_, u, rfl, a, c⟩
theorem bm_reverse : BmOk X "reverse" .reverse := bm_mut (by simp) PySem.F.slot_list_reverse PySem.F.type_list_reverse mt_reverse fun {xs cs ys y vs us p μ H Q} e rx rc hp q => by
  unfold bmF at e
  split at e <;> first | (cases e; done) | skip
  all_goals first
    | (rename_i z; cases z; done)
    | skip
  cases rc
  cases e
  exact ⟨p, vs, rfl, rfl, hp, q _ _ .non rx.reverse⟩
theorem bm_clear : BmOk X "clear" .clear := bm_mut (by simp) PySem.F.slot_list_clear PySem.F.type_list_clear mt_clear fun {xs cs ys y vs us p μ H Q} e rx rc hp q => by
  unfold bmF at e
  split at e <;> first | (cases e; done) | skip
  all_goals first
    | (rename_i z; cases z; done)
    | skip
  cases rc
  cases e
  exact ⟨p, vs, rfl, rfl, hp, q _ _ .non .nil⟩
theorem bm_pop : BmOk X "pop" .pop := bm_mut (r := fun x vs H Q => rPop x vs H Q ∨ rPopAt x vs H Q) (by simp) PySem.F.slot_list_pop PySem.F.type_list_pop (fun pins s σ H x xs v us Q I rx rxs h => by
    rcases h with h | h
    · exact mt_pop pins s σ H x xs v us Q I rx rxs h
    · exact mt_popAt pins s σ H x xs v us Q I rx rxs h) fun {xs cs ys y vs us p μ H Q} e rx rc hp q => by
  have hl := rx.length
  unfold bmF at e
  split at e <;> first | (cases e; done) | skip
  all_goals first
    | (rename_i z; cases z; done)
    | skip
  · cases rc
    cases z : xs[xs.length - 1]? with
    | none => rw [z] at e; cases e
    | some c =>
      rw [z] at e; cases e
      obtain ⟨v, ev, rv⟩ := rx.get z
      exact .inl ⟨p, vs, v, rfl, rfl, hp, by rw [← hl]; exact ev, q _ _ rv rx.dropLast⟩
  · obtain ⟨v, rfl, r1⟩ := vs1 rc
    cases r1
    split at e
    · rename_i i0
      cases z : seqIndex? _ xs.length with
      | none => rw [z] at e; cases e
      | some k =>
        rw [z] at e
        cases z2 : xs[k]? with
        | none => simp [z2] at e
        | some c =>
          simp [z2] at e
          obtain ⟨rfl, rfl⟩ := e
          obtain ⟨v, ev, rv⟩ := rx.get z2
          exact .inr ⟨p, vs, _, k, v, rfl, rfl, hp, i0.1, i0.2, by rw [← hl]; exact z, ev, q _ _ rv (rx.erase k)⟩
    · cases e
theorem bm_insert : BmOk X "insert" .insert := bm_mut (by simp) PySem.F.slot_list_insert PySem.F.type_list_insert mt_insert fun {xs cs ys y vs us p μ H Q} e rx rc hp q => by
  have hl := rx.length
  unfold bmF at e
  split at e <;> first | (cases e; done) | skip
  all_goals first
    | (rename_i z; cases z; done)
    | skip
  obtain ⟨v, u, rfl, r1, r2⟩ := vs2 rc
  cases r1
  split at e
  · rename_i c
    cases e
    exact ⟨p, vs, _, u, rfl, rfl, hp, by rw [← hl]; exact c.1, c.2.1, c.2.2, q _ _ .non (((rx.take _).append (.cons r2 .nil)).append (rx.drop _))⟩
  · cases e
theorem erase_map {β γ : Type} (f : β → γ) : ∀ (l : List β) (j : Nat), (l.map f).eraseIdx j = (l.eraseIdx j).map f
  | [], _ => rfl
  | _ :: _, 0 => rfl
  | a :: l, j + 1 => by show f a :: (l.map f).eraseIdx j = _; rw [erase_map f l j]; rfl
theorem bm_remove : BmOk X "remove" .remove := bm_mut (by simp) PySem.F.slot_list_remove PySem.F.type_list_remove mt_remove fun {xs cs ys y vs us p μ H Q} e rx rc hp q => by
  unfold bmF at e
  split at e <;> first | (cases e; done) | skip
  all_goals first
    | (rename_i z; cases z; done)
    | skip
  obtain ⟨v, rfl, r1⟩ := vs1 rc
  cases r1
  cases z : intsOf xs with
  | none => rw [z] at e; cases e
  | some ns =>
    rw [z] at e
    have ev := ints_rv rx z
    subst ev
    simp only [Option.bind_some, Option.map_eq_some_iff, Prod.mk.injEq] at e
    obtain ⟨j, z2, rfl, rfl⟩ := e
    obtain ⟨f1, f2⟩ := findIdx_first z2
    refine ⟨p, ns, _, j, rfl, rfl, hp, f1, f2, q _ _ .non ?_⟩
    have := rx.erase j
    rwa [erase_map] at this
theorem bm_count : BmOk X "count" .count := ⟨"list.count", PySem.F.slot_list_count, PySem.F.type_list_count, fun pins s σ H x xs v us Q I rx rxs ⟨h, μ, a, cs, k, rel, ra, rv, w, ps⟩ => by
  replace w : oP ((lsOf a h).bind intsOf) fun ns => bmK cs fun i => k (.v (.int (ns.count i))) h := w
  obtain ⟨ns, en, w⟩ := oP_of w
  unfold bmK at w
  split at w
  · obtain ⟨z, rfl, r1⟩ := vs1 rv
    cases r1
    obtain ⟨p, rfl, sq⟩ := ls_ints rel ra en
    exact mt_lcount pins s σ H _ _ v us Q I rx rxs ⟨p, ns, _, rfl, rfl, sq, ps.int w rel⟩
  · exact False.elim w⟩
theorem bm_index : BmOk X "index" .index := ⟨"list.index", PySem.F.slot_list_index, PySem.F.type_list_index, fun pins s σ H x xs v us Q I rx rxs ⟨h, μ, a, cs, k, rel, ra, rv, w, ps⟩ => by
  replace w : oP ((lsOf a h).bind intsOf) fun ns => bmK cs fun i => oP (ns.findIdx? (· == i)) fun j => k (.v (.int j)) h := w
  obtain ⟨ns, en, w⟩ := oP_of w
  unfold bmK at w
  split at w
  · obtain ⟨z, rfl, r1⟩ := vs1 rv
    cases r1
    obtain ⟨j, ej, w⟩ := oP_of w
    obtain ⟨p, rfl, sq⟩ := ls_ints rel ra en
    obtain ⟨f1, f2⟩ := findIdx_first ej
    refine mt_index pins s σ H _ _ v us Q I rx rxs ⟨p, ns.map V.int, _, j, .int _, rfl, rfl, sq, rfl, ?_, by rw [List.getElem?_map, f1]; rfl, beq_self_eq_true _, fun m z' hm hz => ?_, ps.int w rel⟩
    · rw [List.all_map]; exact List.all_eq_true.mpr fun _ _ => rfl
    · rw [List.getElem?_map] at hz
      cases e : ns[m]? with
      | none => rw [e] at hz; cases hz
      | some y =>
        rw [e] at hz; cases hz
        have := f2 m hm
        show (y == _) = false
        rw [beq_eq_false_iff_ne]
        intro c
        subst c
        exact this e
  · exact False.elim w⟩
/-! ### isinstance -/
def tyV' : Ty → V
  | .int => .ty "int" | .bool => .ty "bool" | .str => .ty "str" | .tuple => .ty "tuple" | .list => .ty "list" | .own C => .ref C
def tyU : Ty → Value
  | .int => .type "int" | .bool => .type "bool" | .str => .type "str" | .tuple => .type "tuple" | .list => .type "list" | .own C => .ref C
/-- the facts of own classes -/
structure IsC (K : PySem.W.Frag) (C : Addr) : Prop where
  cl : Cls K C
  ha : PySem.W.findIn K (.ref C) "__class__" = some (some (.builtin "object.__class__"))
  hn : PySem.W.specialIn K (.builtin "object.__class__") "__get__" = some (some (.builtin "getset_descriptor.__get__"))
  htk : PySem.W.takesIn K (.builtin "object.__class__") = some true
  hm : PySem.W.mroIn K C (.type "object") = some true
structure IsOk (K : PySem.W.Frag) (t : Ty) (cs : List Addr) : Prop where
  non : PySem.W.kitOne K (.type "NoneType") (tyU t) = some false
  bl : PySem.W.kitOne K (.type "bool") (tyU t) = some (decide (t = .bool ∨ t = .int))
  int : PySem.W.kitOne K (.type "int") (tyU t) = some (decide (t = .int))
  str : PySem.W.kitOne K (.type "str") (tyU t) = some (decide (t = .str))
  tup : PySem.W.kitOne K (.type "tuple") (tyU t) = some (decide (t = .tuple))
  lst : PySem.W.kitOne K (.type "list") (tyU t) = some (decide (t = .list))
  own : ∀ C ∈ cs, IsC K C ∧ PySem.W.kitOne K (.ref C) (tyU t) = some (decide (t = .own C))
theorem isT_ok {t : Ty} {cs : List Addr} {r : CR} {x : V} {b : Bool} (T : IsOk K t cs) (rel : Rel K μ h H) (rx : RX K H μ r x) (e : isT t cs r h = some b) : ∃ tv, TyX K H x tv ∧ PySem.W.kitOne K tv (tyU t) = some b := by
  cases r with
  | al xs =>
    cases e
    obtain ⟨p, vs, rfl, n, hp, rv⟩ := rx
    exact ⟨_, .base (.lst hp), T.lst⟩
  | v c =>
    cases c with
    | non => cases rx; cases e; exact ⟨_, .base .non, T.non⟩
    | bl c => cases rx; cases e; exact ⟨_, .base (.bl _), T.bl⟩
    | int i => cases rx; cases e; exact ⟨_, .base (.int _), T.int⟩
    | str s => cases rx; cases e; exact ⟨_, .base (.str _), T.str⟩
    | tup xs =>
      cases rx with
      | tup t' rv =>
      cases e
      rcases t' with ⟨hp | ⟨o, hp⟩, _⟩ | ⟨o, its, n, hk, hc, _⟩
      · exact ⟨_, .base (.tup hp), T.tup⟩
      · exact ⟨_, .fTuple hp, T.tup⟩
      · exact ⟨_, .kTuple hk hc, T.tup⟩
    | lst xs =>
      cases rx with
      | lst z hp r => cases e; exact ⟨_, .base (.lst hp), T.lst⟩
    | obj C ns xs =>
      cases rx with
      | obj z hp hl r =>
      simp only [isT] at e
      split at e
      · rename_i hm
        cases e
        obtain ⟨i, k⟩ := T.own _ hm
        exact ⟨_, .base (.ins hp i.cl i.ha i.hn i.htk i.hm), k⟩
      · cases e
    | ref a =>
      cases rx with
      | ref ha =>
      obtain ⟨o, ho, ro⟩ := rel.at ha
      simp only [isT, ho] at e
      cases o with
      | lst ys => cases e; obtain ⟨vs, hp, _⟩ := ro; exact ⟨_, .base (.lst hp), T.lst⟩
      | fro ys => cases e; obtain ⟨o, vs, hp, _⟩ := ro; exact ⟨_, .base (.frz hp), T.lst⟩
      | ins C fs =>
        obtain ⟨dx, vs, hp, _⟩ := ro
        simp only at e
        split at e
        · rename_i hm
          cases e
          obtain ⟨i, k⟩ := T.own C hm
          exact ⟨_, .base (.ins hp i.cl i.ha i.hn i.htk i.hm), k⟩
        · cases e
theorem s_isi {e te : Expr} {p pos : Pos} {ie : CE} {t : Ty} {cs : List Addr} (T : IsOk X.K t cs) (hg : Gl X "isinstance") (hm : X.mg "isinstance" = none) (he : PE X e (tE X.K (wE ie))) (ht : PE X te (tC (tyV' t))) (hst : stars [e, te] = false) :
    PE X (.Call (.Name "isinstance" p) [e, te] [] pos) (tE X.K (wE (.isi ie t cs))) := by
  obtain ⟨s1, s2⟩ := stars_cons hst
  obtain ⟨s3, _⟩ := stars_cons s2
  refine PE.imp (pe_callB call_isi hg hm (by decide +kernel) (pa_cons he (pa_cons ht pa_nil (starEach_cons s3)) (starEach_cons s1)) (by decide) (by decide) (starEach_cons s1) (plain_of s2)) fun σ H Q ⟨c, h, μ, k, E, rs, rel, w, hE, ps⟩ => ?_
  refine ⟨c, h, μ, _, E, rs, rel, w, hE, fun r1 h1 w1 μ1 H1 x e1 rel1 rr1 => ?_⟩
  obtain ⟨b, eb, w1⟩ := oP_of w1
  · obtain ⟨tv, h1', h2'⟩ := isT_ok T rel1 rr1.rx eb
    refine ⟨x, tyV' t, tv, tyU t, b, rfl, ?_, h1', h2', (ps.on e1 rel1).bl w1 rel1⟩
    cases t <;> first | exact .ty _ | exact .own _
end
end G

namespace G
open PySem PySem.Spec PyProof.Rows L2
section
variable {X : Cx} {K : PySem.W.Frag} {H H0 H1 H' : Hp} {μ μ0 μ1 μ' : Mu} {h h1 : CH}
/-! ### instances -/
/-- a class of the text, to a caller -/
structure NOk (X : Cx) (C : Addr) (sp : Spec) (n : Nat) (ds : List CV) : Prop where
  ex : ∃ (f : Addr) (fd : FuncData) (k : Nat) (ps : List Str) (dvs : List V) (dus : List Value), Mk X.K C f ∧ FnOk X.prog X.w X.K X.mg X.base CX0 k f fd ps (simSp X.K n sp) ∧ Room (k + 1) X.A ∧ Binds X.K fd ps dus ∧ Vals dvs dus ∧ DV X.K ds dvs
/-- a new object, taken in -/
theorem take_new {C x dx : Addr} (rel : Rel K μ h H) (nx : H x = none) (nd : H dx = none) (ne : dx ≠ x) :
    Rel K (μ.add x) (h ++ [.ins C []]) (upd (upd H dx (.own x)) x (.ins C dx [])) ∧ Ext H μ (upd (upd H dx (.own x)) x (.ins C dx [])) (μ.add x) ∧ (μ.add x).l[h.length]? = some x := by
  have nx2 : upd H dx (.own x) x = none := by rw [upd_ne (Ne.symm ne)]; exact nx
  have r1 := (rel.laid (o := .own x) nd).laid (o := .ins C dx []) nx2
  have e1 : Ext H μ (upd (upd H dx (.own x)) x (.ins C dx [])) μ := (ext_laid nd).trans (ext_laid nx2)
  refine ⟨r1.push (rel.notMem nx) (ins_np upd_same) ⟨dx, [], upd_same, .nil⟩ ⟨_, upd_same⟩, ext_add e1 nx, ?_⟩
  rw [← rel.len]
  simp [Mu.add]
theorem new_end {C : Addr} {sp : Spec} {n : Nat} {cs : List CV} {vs : List V} {Q : VK} {k : WQ} {E : WX'} {E' : XK} {h2 : CH} {μ2 : Mu} (e2 : Ext H0 μ0 H μ2) (rel2 : Rel K μ2 h2 H) (hn : cs.length + 1 = n)
    (rv : ∀ H' μ', Ext H μ2 H' μ' → ∀ x, RV K H' μ' (.ref h2.length) (.ref x) → RVs K H' μ' (.ref h2.length :: cs) (.ref x :: vs)) (w : sp (.ref h2.length :: cs) (h2 ++ [.ins C []]) (fun r h3 => r = .v .non ∧ k (.v (.ref h2.length)) h3) E) (hE : ∀ x h', ¬ E x h') (ps : Post K H0 μ0 k Q) :
    ∀ x dx, H x = none → H dx = none → dx ≠ x → simSp K n sp (.ref x :: vs) (upd (upd H dx (.own x)) x (.ins C dx [])) (fun v H2 => v = .non ∧ Q (.ref x) H2) E' := by
  intro x dx nx nd ne
  obtain ⟨r, e, g⟩ := take_new (C := C) rel2 nx nd ne
  refine ⟨_, _, _, _, E, by simpa using hn, r, rv _ _ e x (.ref g), w, hE, ?_⟩
  rintro r3 h3 ⟨rfl, w3⟩ μ3 H3 y e3 rel3 rr3
  have ey : y = .non := rx_non rr3.rx
  exact ⟨ey, ps _ _ w3 μ3 H3 _ (e2.trans (e.trans e3)) rel3 (show RV K H3 μ3 (.ref _) (.ref x) from .ref (get_pre e3.pre g))⟩
theorem s_new {C : Addr} {x : Str} {p pos : Pos} {es : List Expr} {ia : CA} {sp : Spec} {n : Nat} {ds : List CV} (F : NOk X C sp n ds) (hg : Gl X x) (hm : X.mg x = some (.ref C)) (ha : PA X es (tA X.K (wA ia)))
    (h0 : es = [] → ia = .nil) (hst : stars es = false) (hdb : (x == ("__debug__" : Str)) = false) : PE X (.Call (.Name x p) es [] pos) (tE X.K (wE (.new C sp n ds ia))) := by
  obtain ⟨f, fd, k, ps, dvs, dus, M, F, hr, hb, hv, hd⟩ := F.ex
  have fin : ∀ {H0 H : Hp} {μ0 μ : Mu} {h : CH} {rs : List CR} {xs : List V} {Q : VK} {k : WQ} {E : WX'}, Ext H0 μ0 H μ → Rel X.K μ h H → RRs X.K H0 H μ rs xs → (adopts rs h fun xs h2 => (xs ++ ds).length + 1 = n ∧ ap sp (.ref h2.length :: (xs ++ ds)) (h2 ++ [.ins C []]) (fun r h3 => r = .v .non ∧ k (.v (.ref h2.length)) h3) E) → (∀ x h', ¬ E x h') → Post X.K H0 μ0 k Q →
      ∀ x dx, H x = none → H dx = none → dx ≠ x → simSp X.K n sp (.ref x :: (xs ++ dvs)) (upd (upd H dx (.own x)) x (.ins C dx [])) (fun v H2 => v = .non ∧ Q (.ref x) H2) E0 := fun {H0 H μ0 μ h rs xs Q k E} e rel rr w hE ps => by
    obtain ⟨cs, h2, μ2, ⟨hn, w2⟩, e2, rel2, rv, _⟩ := adopts_ok e rel rr w
    exact new_end e2 rel2 hn (fun H' μ' e' x r => .cons r ((rv.append (hd _ _)).ext e')) w2 hE ps
  cases es with
  | nil =>
    have e0 := h0 rfl
    subst e0
    exact PE.imp (pe_make0 M F hr hg hm hb hv (E := E0) pass0 hdb) fun σ H Q ⟨c, h, μ, k, E, rs, rel, w, hE, ps⟩ => fin (rs := []) (xs := []) Ext.refl rel .nil w hE ps
  | cons e es =>
    obtain ⟨a, b⟩ := stars_cons hst
    exact PE.imp (pe_make M F hr hg hm hb hv (E := E0) pass0 ha hdb (starEach_cons a) (plain_of b)) fun σ H Q ⟨c, h, μ, k, E, rs, rel, w, hE, ps⟩ =>
      ⟨c, h, μ, _, E, rs, rel, w, hE, fun r1 h1 w1 μ1 H1 xs e1 rel1 rr1 => fin e1 rel1 rr1 w1 hE ps⟩
/-! ### keywords -/
theorem PK.imp {e : List Keyword} {t t' : TA} (h : PK X e t) (i : ∀ σ H Q, t' σ H Q → t σ H Q) : PK X e t' := ⟨fun pos pins s σ H Q I q => h.run pos pins s σ H Q I (i σ H Q q)⟩
theorem kA_nil : PK X [] (tA X.K (wA .nil)) := PK.imp pk_nil fun σ H Q ⟨c, h, μ, k, E, rs, rel, w, hE, ps⟩ => ps [] h w μ H [] Ext.refl rel .nil
theorem kA_cons {e : Expr} {nm : Option Str} {kpos : Pos} {es : List Keyword} {ie : CE} {ir : CA} (ha : PE X e (tE X.K (wE ie))) (hr : PK X es (tA X.K (wA ir))) : PK X (⟨nm, e, kpos⟩ :: es) (tA X.K (wA (.cons ie ir))) := PK.imp (pk_cons ha hr) fun σ H Q ⟨c, h, μ, k, E, rs, rel, w, hE, ps⟩ => by
  refine ⟨c, h, μ, _, E, rs, rel, w, hE, fun r1 h1 w1 μ1 H1 x e1 rel1 rr1 => ?_⟩
  refine ⟨c, h1, μ1, _, E, rs.ext e1, rel1, w1, hE, fun r2 h2 w2 μ2 H2 xs e2 rel2 rr2 => ?_⟩
  refine ps (r1 :: r2) h2 w2 μ2 H2 (x :: xs) (e1.trans e2) rel2 (.cons (rr1.on e2) (rr2.back e1 rel1) fun ys er i ys' ei => ?_)
  subst er
  obtain ⟨p, vs, ex, f, n, hp, rv⟩ := rr1
  obtain ⟨q, hq, fq⟩ := rr2.free ei
  rw [ex, hq]
  intro z
  cases z
  rw [hp] at fq; cases fq
theorem RRs.len {rs : List CR} {xs : List V} (h : RRs K H0 H μ rs xs) : rs.length = xs.length := by
  induction h with
  | nil => rfl
  | cons _ _ _ ih => simp [ih]
theorem RRs.app {rs rs2 : List CR} {xs ys : List V} (a : RRs K H0 H μ rs xs) (b : RRs K H0 H μ rs2 ys) (d : ∀ (i : Nat) (u : List CV) (j : Nat) (w : List CV), rs[i]? = some (CR.al u) → rs2[j]? = some (CR.al w) → ∀ v : V, xs[i]? = some v → ys[j]? ≠ some v) : RRs K H0 H μ (rs ++ rs2) (xs ++ ys) := by
  induction a with
  | nil => exact b
  | cons a t ap ih =>
    rename_i r x rs xs
    refine .cons a (ih fun i u j w e1 e2 v e3 => d (i + 1) u j w (by simpa using e1) e2 v (by simpa using e3)) fun zs er i zs' ei => ?_
    subst er
    have lt := t.len
    change (rs ++ rs2)[i]? = _ at ei
    show (xs ++ ys)[i]? ≠ _
    by_cases hi : i < rs.length
    · rw [List.getElem?_append_left hi] at ei
      rw [List.getElem?_append_left (by rw [← lt]; exact hi)]
      exact ap zs rfl i zs' ei
    · rw [List.getElem?_append_right (by omega)] at ei
      rw [List.getElem?_append_right (by omega), ← lt]
      exact d 0 zs (i - rs.length) zs' rfl ei x rfl
/-- positional values, then the keywords' -/
theorem args_kws {rs1 rs2 : List CR} {vs zs : List V} {H2 : Hp} {μ2 : Mu} (e1 : Ext H μ H1 μ1) (rel1 : Rel K μ1 h1 H1) (rr1 : RRs K H H1 μ1 rs1 vs) (e2 : Ext H1 μ1 H2 μ2) (rr2 : RRs K H1 H2 μ2 rs2 zs) : RRs K H H2 μ2 (rs1 ++ rs2) (vs ++ zs) := by
  refine (rr1.on e2).app (rr2.back e1 rel1) fun i a j b ei ej v hv => ?_
  obtain ⟨q, hq, fq⟩ := rr2.free ej
  rw [hq]
  intro z
  cases z
  have : ∀ {rs : List CR} {xs : List V} {i : Nat}, RRs K H H1 μ1 rs xs → rs[i]? = some (.al a) → xs[i]? = some (.ref q) → ∃ o, H1 q = some o := by
    intro rs xs i rr
    induction rr generalizing i with
    | nil => intro e; simp at e
    | cons x t _ ih =>
      intro e1 e2
      cases i with
      | zero =>
        simp at e1 e2
        subst e1
        obtain ⟨p, vs, ex, _, _, hp, _⟩ := x
        rw [e2] at ex; cases ex
        exact ⟨_, hp⟩
      | succ i => exact ih (by simpa using e1) (by simpa using e2)
  obtain ⟨o, ho⟩ := this rr1 ei hv
  rw [fq] at ho; cases ho
/-- how the values are laid -/
def ArOk (K : PySem.W.Frag) (np nk : Nat) (ar : List Src) (gV : List V → List V → List V) : Prop := ∀ H μ cs vs zs ws, cs.length = np → zs.length = nk → RVs K H μ cs vs → RVs K H μ zs ws → RVs K H μ (arC ar cs zs) (gV vs ws)
structure FOkK (X : Cx) (f : Addr) (sp : Spec) (n np : Nat) (ks : List Str) (ar : List Src) : Prop where
  ex : ∃ (fd : FuncData) (k : Nat) (ps : List Str) (g : List Value → List Value → List Value) (gV : List V → List V → List V), FnOk X.prog X.w X.K X.mg X.base CX0 k f fd ps (simSp X.K n sp) ∧ Room k X.A ∧ KBn X.K fd ps np ks g gV ∧ ArOk X.K np ks.length ar gV ∧ ar.length = n
structure NOkK (X : Cx) (C : Addr) (sp : Spec) (n np : Nat) (ks : List Str) (ar : List Src) : Prop where
  ex : ∃ (f : Addr) (fd : FuncData) (k : Nat) (ps : List Str) (g : List Value → List Value → List Value) (gV : List V → List V → List V), Mk X.K C f ∧ FnOk X.prog X.w X.K X.mg X.base CX0 k f fd ps (simSp X.K n sp) ∧ Room (k + 1) X.A ∧ KBn X.K fd ps (np + 1) ks g gV ∧ ArOk X.K (np + 1) ks.length ar gV ∧ ar.length = n
theorem arC_len {ar : List Src} {us zs : List CV} : (arC ar us zs).length = ar.length := by unfold arC; simp
theorem two_parts {cs : List CV} {vs zs : List V} (n : Nat) (r : RVs K H μ cs (vs ++ zs)) (hn : vs.length = n) : RVs K H μ (cs.take n) vs ∧ RVs K H μ (cs.drop n) zs := by
  have a := r.take n
  have b := r.drop n
  rw [← hn, List.take_left' rfl] at a
  rw [← hn, List.drop_left' rfl] at b
  rw [← hn]
  exact ⟨a, b⟩
theorem kws_ok {kws : List Keyword} {pos : Pos} {env : Env} : (kws.all fun k => k.arg.isSome) = true → (backToKw pos (keywordEach kws env)).all (·.1.isSome) = true ∧ (backToKw pos (keywordEach kws env)).filterMap (·.1) = kws.filterMap (·.arg) ∧ (backToKw pos (keywordEach kws env)).any (·.1.isNone) = false := by
  induction kws with
  | nil => intro _; exact ⟨rfl, rfl, rfl⟩
  | cons k ks ih =>
    intro h
    rw [List.all_cons, Bool.and_eq_true] at h
    obtain ⟨a, b, c⟩ := ih h.2
    obtain ⟨nm, e, kp⟩ := k
    cases nm with
    | none => simp at h
    | some nm =>
      refine ⟨?_, ?_, ?_⟩
      · show (true && (backToKw pos (keywordEach ks env)).all (·.1.isSome)) = true
        rw [a]; rfl
      · show nm :: (backToKw pos (keywordEach ks env)).filterMap (·.1) = nm :: ks.filterMap (·.arg)
        rw [b]
      · show (false || (backToKw pos (keywordEach ks env)).any (·.1.isNone)) = false
        rw [c]; rfl
theorem plain2 {pos : Pos} {es : List Expr} {kws : List Keyword} {env : Env} (h : stars es = false) (hk : (kws.all fun k => k.arg.isSome) = true) : ((backTo pos (starEach es env)).any (·.1) || (backToKw pos (keywordEach kws env)).any (·.1.isNone)) = false := by
  rw [plain_of h, (kws_ok hk).2.2]; rfl
theorem pe_callN0 {CX : CXT} {k : Nat} {f : Addr} {fd : FuncData} {ps ks : List Str} {sp : Sp} {E : XK} {x : Str} {p pos : Pos} {kws : List Keyword} {tk : TA} {g : List Value → List Value → List Value} {gV : List V → List V → List V}
    (F : FnOk X.prog X.w X.K X.mg X.base CX k f fd ps sp) (hr : Room k X.A) (hg : Gl X x) (hm : X.mg x = some (.ref f)) (hk : PySem.W.keepIn X.K (.ref f) = true) (hb : KBn X.K fd ps 0 ks g gV) (hx : Passes CX X E) (hkw : PK X kws tk)
    (hall : (backToKw pos (keywordEach kws X.env)).all (·.1.isSome) = true) (hks : (backToKw pos (keywordEach kws X.env)).filterMap (·.1) = ks) (hdb : (x == ("__debug__" : Str)) = false)
    (hpl : ((backTo pos (starEach [] X.env)).any (·.1) || (backToKw pos (keywordEach kws X.env)).any (·.1.isNone)) = false) :
    PE X (.Call (.Name x p) [] kws pos) (L2.tCallN 0 ks.length sp gV E tNil tk) := by
  refine ⟨fun pins s σ H Q I h => ?_⟩
  refine wpAny_Call_Name_kw (ld_glob I hg hm ?_ hdb)
  refine PySem.W.callWith_KW0 (h₀ := X.base) I.ok.mod.kin hk hall ?_ hpl
  refine thn (hkw.run pos pins s σ H _ I h) fun ws s2 ⟨zs, H2, I2, rz, l1, l2, q2⟩ => ⟨I2.kIn, ?_⟩
  rw [hks]
  exact run_fnN (us := []) (vs := []) F hr hb hx I2 .nil rz rfl l2 q2
/-- f(e, .., k = v, ..) -/
theorem s_callk0 {f : Addr} {x : Str} {p pos : Pos} {kws : List Keyword} {ik : CA} {sp : Spec} {n : Nat} {ks : List Str} {ar : List Src} (F : FOkK X f sp n 0 ks ar) (hg : Gl X x) (hm : X.mg x = some (.ref f)) (hk : PySem.W.keepIn X.K (.ref f) = true)
    (hkw : PK X kws (tA X.K (wA ik))) (hs : (kws.all fun k => k.arg.isSome) = true) (hks : kws.filterMap (·.arg) = ks) (hdb : (x == ("__debug__" : Str)) = false) : PE X (.Call (.Name x p) [] kws pos) (tE X.K (wE (.callk sp 0 ks.length ar .nil ik))) := by
  obtain ⟨fd, k, ps, g, gV, F, hr, hb, hA, hl⟩ := F.ex
  obtain ⟨k1, k2, k3⟩ := kws_ok (pos := pos) (env := X.env) hs
  refine PE.imp (pe_callN0 F hr hg hm hk hb (E := E0) pass0 hkw k1 (by rw [k2]; exact hks) hdb (plain2 rfl hs)) fun σ H Q ⟨c, h, μ, k, E, rs, rel, w, hE, ps⟩ => ?_
  refine ⟨c, h, μ, _, E, rs, rel, w, hE, fun r2 h2 w2 μ2 H2 zs e2 rel2 rr2 => ?_⟩
  obtain ⟨cs, h3, μ3, ⟨⟨l1, l2⟩, w3⟩, e3, rel3, rv, _⟩ := adopts_ok (Ext.refl.trans e2) rel2 (args_kws (rs1 := []) (vs := []) Ext.refl rel .nil e2 rr2) w2
  have z2 : zs.length = ks.length := rr2.len.symm.trans l2
  obtain ⟨v1, v2⟩ := two_parts (vs := []) 0 rv rfl
  exact ⟨rfl, z2, arC ar (cs.take 0) (cs.drop 0), h3, μ3, k, E, arC_len.trans hl, rel3, hA _ _ _ _ _ _ rfl (v2.length.trans z2) v1 v2, w3, hE, ps.on e3 rel3⟩
/-- f(e, .., k = v, ..) -/
theorem s_callk {f : Addr} {x : Str} {p pos : Pos} {e : Expr} {es : List Expr} {kws : List Keyword} {ia ik : CA} {sp : Spec} {n np : Nat} {ks : List Str} {ar : List Src} (F : FOkK X f sp n np ks ar) (hg : Gl X x) (hm : X.mg x = some (.ref f)) (hk : PySem.W.keepIn X.K (.ref f) = true) (ha : PA X (e :: es) (tA X.K (wA ia)))
    (hkw : PK X kws (tA X.K (wA ik))) (hst : stars (e :: es) = false) (hs : (kws.all fun k => k.arg.isSome) = true) (hks : kws.filterMap (·.arg) = ks) (hdb : (x == ("__debug__" : Str)) = false) : PE X (.Call (.Name x p) (e :: es) kws pos) (tE X.K (wE (.callk sp np ks.length ar ia ik))) := by
  obtain ⟨fd, k, ps, g, gV, F, hr, hb, hA, hl⟩ := F.ex
  obtain ⟨a, b⟩ := stars_cons hst
  obtain ⟨k1, k2, k3⟩ := kws_ok (pos := pos) (env := X.env) hs
  refine PE.imp (pe_callN F hr hg hm hk hb (E := E0) pass0 ha hkw k1 (by rw [k2]; exact hks) hdb (starEach_cons a) (plain2 hst hs)) fun σ H Q ⟨c, h, μ, k, E, rs, rel, w, hE, ps⟩ => ?_
  refine ⟨c, h, μ, _, E, rs, rel, w, hE, fun r1 h1 w1 μ1 H1 vs e1 rel1 rr1 => ?_⟩
  refine ⟨c, h1, μ1, _, E, rs.ext e1, rel1, w1, hE, fun r2 h2 w2 μ2 H2 zs e2 rel2 rr2 => ?_⟩
  obtain ⟨cs, h3, μ3, ⟨⟨l1, l2⟩, w3⟩, e3, rel3, rv, _⟩ := adopts_ok (e1.trans e2) rel2 (args_kws e1 rel1 rr1 e2 rr2) w2
  have z1 : vs.length = np := rr1.len.symm.trans l1
  have z2 : zs.length = ks.length := rr2.len.symm.trans l2
  obtain ⟨v1, v2⟩ := two_parts np rv z1
  exact ⟨z1, z2, arC ar (cs.take np) (cs.drop np), h3, μ3, k, E, arC_len.trans hl, rel3, hA _ _ _ _ _ _ (v1.length.trans z1) (v2.length.trans z2) v1 v2, w3, hE, ps.on e3 rel3⟩
/-- C(.., k = v, ..) -/
theorem s_newk {C : Addr} {x : Str} {p pos : Pos} {es : List Expr} {kws : List Keyword} {ia ik : CA} {sp : Spec} {n np : Nat} {ks : List Str} {ar : List Src} (F : NOkK X C sp n np ks ar) (hnp : es.length = np) (hg : Gl X x) (hm : X.mg x = some (.ref C)) (ha : PA X es (tA X.K (wA ia))) (h0 : es = [] → ia = .nil)
    (hkw : PK X kws (tA X.K (wA ik))) (hst : stars es = false) (hs : (kws.all fun k => k.arg.isSome) = true) (hks : kws.filterMap (·.arg) = ks) (hdb : (x == ("__debug__" : Str)) = false) : PE X (.Call (.Name x p) es kws pos) (tE X.K (wE (.newk C sp np ks.length ar ia ik))) := by
  obtain ⟨f, fd, k, ps, g, gV, M, FF, hr, hb, hA, hl⟩ := F.ex
  clear F
  obtain ⟨k1, k2, k3⟩ := kws_ok (pos := pos) (env := X.env) hs
  have fin : ∀ {H H1 H2 : Hp} {μ μ1 μ2 : Mu} {h1 h2 : CH} {r1 r2 : List CR} {vs zs : List V} {Q : VK} {k : WQ} {E : WX'}, Ext H μ H1 μ1 → Rel X.K μ1 h1 H1 → RRs X.K H H1 μ1 r1 vs → Ext H1 μ1 H2 μ2 → Rel X.K μ2 h2 H2 → RRs X.K H1 H2 μ2 r2 zs →
      (adopts (r1 ++ r2) h2 fun xs h4 => (r1.length = np ∧ r2.length = ks.length) ∧ ap sp (arC ar (.ref h4.length :: xs.take np) (xs.drop np)) (h4 ++ [.ins C []]) (fun r h5 => r = .v .non ∧ k (.v (.ref h4.length)) h5) E) → (∀ x h', ¬ E x h') → Post X.K H μ k Q →
      vs.length = np ∧ zs.length = ks.length ∧ ∀ x dx, H2 x = none → H2 dx = none → dx ≠ x → simSp X.K n sp (gV (.ref x :: vs) zs) (upd (upd H2 dx (.own x)) x (.ins C dx [])) (fun v H3 => v = .non ∧ Q (.ref x) H3) E0 := fun {H H1 H2 μ μ1 μ2 h1 h2 r1 r2 vs zs Q k E} e1 rel1 rr1 e2 rel2 rr2 w2 hE ps => by
    obtain ⟨cs, h3, μ3, ⟨⟨l1, l2⟩, w3⟩, e3, rel3, rv, _⟩ := adopts_ok (e1.trans e2) rel2 (args_kws e1 rel1 rr1 e2 rr2) w2
    have z1 : vs.length = np := rr1.len.symm.trans l1
    have z2 : zs.length = ks.length := rr2.len.symm.trans l2
    obtain ⟨v1, v2⟩ := two_parts np rv z1
    refine ⟨z1, z2, fun x dx nx nd ne => ?_⟩
    obtain ⟨r, e, g⟩ := take_new (C := C) rel3 nx nd ne
    refine ⟨arC ar (.ref h3.length :: cs.take np) (cs.drop np), _, _, _, E, arC_len.trans hl, r, hA _ _ _ _ _ _ (by simp [v1.length.trans z1]) (v2.length.trans z2) (.cons (.ref g) (v1.ext e)) (v2.ext e), w3, hE, ?_⟩
    rintro r3 h5 ⟨rfl, w5⟩ μ5 H5 y e5 rel5 rr5
    have ey : y = .non := rx_non rr5.rx
    exact ⟨ey, ps _ _ w5 μ5 H5 _ (e3.trans (e.trans e5)) rel5 (show RV X.K H5 μ5 (.ref _) (.ref x) from .ref (get_pre e5.pre g))⟩
  cases es with
  | nil =>
    have e0 := h0 rfl
    subst e0
    have hnp : np = 0 := hnp.symm
    subst hnp
    refine PE.imp (pe_makeK0 M FF hr hg hm hb (E := E0) pass0 hkw k1 (by rw [k2]; exact hks) hdb (plain2 hst hs)) fun σ H Q ⟨c, h, μ, k, E, rs, rel, w, hE, ps⟩ => ?_
    refine ⟨c, h, μ, _, E, rs, rel, w, hE, fun r2 h2 w2 μ2 H2 zs e2 rel2 rr2 => ?_⟩
    exact fin (r1 := []) (vs := []) Ext.refl rel .nil e2 rel2 rr2 w2 hE ps
  | cons e es =>
    obtain ⟨a, b⟩ := stars_cons hst
    refine PE.imp (pe_makeK M FF hr hg hm hb (E := E0) pass0 ha hkw k1 (by rw [k2]; exact hks) hdb (starEach_cons a) (plain2 hst hs)) fun σ H Q ⟨c, h, μ, k, E, rs, rel, w, hE, ps⟩ => ?_
    refine ⟨c, h, μ, _, E, rs, rel, w, hE, fun r1 h1 w1 μ1 H1 vs e1 rel1 rr1 => ?_⟩
    refine ⟨c, h1, μ1, _, E, rs.ext e1, rel1, w1, hE, fun r2 h2 w2 μ2 H2 zs e2 rel2 rr2 => ?_⟩
    exact fin e1 rel1 rr1 e2 rel2 rr2 w2 hE ps
/-! ### list(range(..)) -/
theorem rng_rv {i : Int} {n : Nat} : RVs K H μ ((List.range n).map fun (k : Nat) => CV.int (i + (k : Int))) ((List.range n).map fun (k : Nat) => V.int (i + (k : Int))) := by
  generalize List.range n = l
  induction l with
  | nil => exact .nil
  | cons a l ih => exact .cons (.int _) ih
def rgHO (tb : Bool) (i j : Int) : HO := match tb with
  | true => .tup (rgV i j)
  | false => .lst (rgV i j)
theorem lrng_end {tb : Bool} {Q : VK} {k : WQ} {i j : Int} (ps : Post K H0 μ0 k Q) (e : Ext H0 μ0 H μ) (rel : Rel K μ h H) (w : k (cnvR tb ((List.range (j - i).toNat).map fun (k : Nat) => .int (i + (k : Int)))) h) {q : Addr} (n : H q = none) :
    Q (.ref q) (upd H q (rgHO tb i j)) := by
  cases tb with
  | true => exact (ps.on e rel).tup (show k (.v (.tup _)) h from w) rel rng_rv n
  | false => exact (ps.on e rel).al (show k (.al _) h from w) rel rng_rv n
theorem s_lrng2 {t : Str} {p p2 pos2 pos : Pos} {a b : Expr} {ia ib : CE} {tb : Bool} (ht : (t = "list" ∧ tb = false) ∨ (t = "tuple" ∧ tb = true)) (hc : X.calm = true) (hg : Gl X t) (hm : X.mg t = none) (hg2 : Gl X "range") (hm2 : X.mg "range" = none) (ha : PE X a (tE X.K (wE ia))) (hb : PE X b (tE X.K (wE ib))) (hst : stars [a, b] = false) :
    PE X (.Call (.Name t p) [.Call (.Name "range" p2) [a, b] [] pos2] [] pos) (tE X.K (wE (.lrng tb ia ib))) := by
  obtain ⟨s1, s2⟩ := stars_cons hst
  obtain ⟨s3, _⟩ := stars_cons s2
  have key : ∀ σ H Q, tE X.K (wE (.lrng tb ia ib)) σ H Q → tRg2 (tE X.K (wE ia)) (tE X.K (wE ib)) σ H fun i j H2 => RgOk i j ∧ ∀ q, H2 q = none → Q (.ref q) (upd H2 q (rgHO tb i j)) := fun σ H Q ⟨c, h, μ, k, E, rs, rel, w, hE, ps⟩ => by
    refine ⟨c, h, μ, _, E, rs, rel, w, hE, fun r1 h1 w1 μ1 H1 x e1 rel1 rr1 => ?_⟩
    refine ⟨c, h1, μ1, _, E, rs.ext e1, rel1, w1, hE, fun r2 h2 w2 μ2 H2 y e2 rel2 rr2 => ?_⟩
    obtain ⟨i, ei, w2⟩ := inI_of w2
    obtain ⟨j, ej, w2⟩ := inI_of w2
    subst ei
    subst ej
    exact ⟨i, j, rx_int rr1.rx, rx_int rr2.rx, w2.1, fun q n => lrng_end ps (e1.trans e2) rel2 w2.2 n⟩
  have P := prg_2 (p := p2) (pos := pos2) hg2 hm2 ha hb (starEach_cons s1) (starEach_cons s3) (plain_of s2)
  rcases ht with ⟨rfl, rfl⟩ | ⟨rfl, rfl⟩
  · exact PE.imp (pe_listRg hc hg hm P) fun σ H Q w => key σ H Q w
  · exact PE.imp (pe_tupRg hc hg hm P) fun σ H Q w => key σ H Q w
theorem s_lrng1 {t : Str} {p p2 pos2 pos : Pos} {a : Expr} {ia : CE} {tb : Bool} (ht : (t = "list" ∧ tb = false) ∨ (t = "tuple" ∧ tb = true)) (hc : X.calm = true) (hg : Gl X t) (hm : X.mg t = none) (hg2 : Gl X "range") (hm2 : X.mg "range" = none) (ha : PE X a (tE X.K (wE ia))) (hst : stars [a] = false) :
    PE X (.Call (.Name t p) [.Call (.Name "range" p2) [a] [] pos2] [] pos) (tE X.K (wE (.lrng tb (.con (.int 0)) ia))) := by
  obtain ⟨s1, s2⟩ := stars_cons hst
  have key : ∀ σ H Q, tE X.K (wE (.lrng tb (.con (.int 0)) ia)) σ H Q → tRg1 (tE X.K (wE ia)) σ H fun i j H2 => RgOk i j ∧ ∀ q, H2 q = none → Q (.ref q) (upd H2 q (rgHO tb i j)) := fun σ H Q ⟨c, h, μ, k, E, rs, rel, w, hE, ps⟩ => by
    refine ⟨c, h, μ, _, E, rs, rel, w, hE, fun r1 h1 w1 μ1 H1 x e1 rel1 rr1 => ?_⟩
    change inI (.v (.int 0)) _ at w1
    obtain ⟨i, ei, w2⟩ := inI_of w1
    obtain ⟨j, ej, w2⟩ := inI_of w2
    cases ei
    subst ej
    exact ⟨j, rx_int rr1.rx, w2.1, fun q n => lrng_end ps e1 rel1 w2.2 n⟩
  have P := prg_1 (p := p2) (pos := pos2) hg2 hm2 ha (starEach_cons s1)
  rcases ht with ⟨rfl, rfl⟩ | ⟨rfl, rfl⟩
  · exact PE.imp (pe_listRg hc hg hm P) fun σ H Q w => key σ H Q w
  · exact PE.imp (pe_tupRg hc hg hm P) fun σ H Q w => key σ H Q w
/-! ### range with a step -/
theorem rsz_pos {i j k : Int} (k0 : 0 < k) : Builtin.Range.rangeSize i j k = (((j - i + (k - 1)) / k).toNat : Int) := by
  unfold Builtin.Range.rangeSize
  rw [if_pos k0]
  have e : j - i + (k - 1) = (j - i - 1) + k := by omega
  rw [e, Int.add_ediv_of_dvd_right (Int.dvd_refl k), Int.ediv_self (by omega)]
  split
  · have : 0 ≤ (j - i - 1) / k := Int.ediv_nonneg (by omega) (by omega)
    omega
  · have : (j - i - 1) / k ≤ -1 := by
      have := Int.ediv_lt_of_lt_mul k0 (show j - i - 1 < 0 * k by omega)
      omega
    omega
theorem rgc_pos {i j k : Int} (hi : -(2 ^ 60) ≤ i) (hi' : i < 2 ^ 60) (hj : -(2 ^ 60) ≤ j) (hj' : j < 2 ^ 60) (k0 : 0 < k) (k1 : k < 2 ^ 29) : RgC i j k ((j - i + (k - 1)) / k).toNat := by
  have e := rsz_pos (i := i) (j := j) k0
  have l : (j - i + (k - 1)) / k ≤ 2 ^ 62 - 1 := by
    by_cases z : 0 ≤ j - i + (k - 1)
    · have := Int.ediv_le_self k z
      omega
    · have := Int.ediv_lt_of_lt_mul k0 (show j - i + (k - 1) < 0 * k by omega)
      omega
  refine ⟨by omega, by omega, ?_, e⟩
  unfold Builtin.Range.small
  rw [e]
  simp only [Builtin.Range.rangeFitsLong, Bool.and_eq_true, Bool.or_eq_true, decide_eq_true_eq, beq_iff_eq, show k > 0 from k0, if_true]
  have : (0 : Int) ≤ ((j - i + (k - 1)) / k).toNat := by omega
  have : ((((j - i + (k - 1)) / k).toNat : Nat) : Int) ≤ 2 ^ 62 - 1 := by omega
  omega
theorem wc_rngC {B : Hp} {lo c : Int} {n : Nat} {G : CH → Prop} : WalkC K B H μ (Itc lo c n) ((List.range n).map fun (q : Nat) => CV.int (lo + (q : Int) * c)) G := by
  intro μ2 h2 H2 e rel g
  rw [List.length_map, List.length_range]
  refine ⟨fun i hi => hi, Nat.le_refl n, fun i x H' hi y => ?_⟩
  obtain ⟨e', y⟩ := y
  subst e' y
  exact ⟨Ext.refl, rel, _, by simp [hi], .int _⟩
theorem i_rng3 {tg a b d : Expr} {p pos : Pos} {ia ib ic : CE} (hg : Gl X "range") (hm : X.mg "range" = none) (ha : PE X a (tE X.K (wE ia))) (hb : PE X b (tE X.K (wE ib))) (hd : PE X d (tE X.K (wE ic))) (hst : stars [a, b, d] = false) : PI X tg (.Call (.Name "range" p) [a, b, d] [] pos) (tI X.K (wI (.rng3 ia ib ic))) := by
  obtain ⟨s1, s2⟩ := stars_cons hst
  obtain ⟨s3, s4⟩ := stars_cons s2
  obtain ⟨s5, _⟩ := stars_cons s4
  refine PI.imp (pi_range3 hg hm (pa_cons ha (pa_cons hb (pa_cons hd pa_nil (starEach_cons s5)) (starEach_cons s3)) (starEach_cons s1)) (starEach_cons s1) (plain_of s2)) fun σ H R ⟨c, h, μ, k, E, rs, rel, w, hE, ps⟩ => ?_
  refine ⟨c, h, μ, _, E, rs, rel, w, hE, fun r1 h1 w1 μ1 H1 x e1 rel1 rr1 => ?_⟩
  refine ⟨c, h1, μ1, _, E, rs.ext e1, rel1, w1, hE, fun r2 h2 w2 μ2 H2 y e2 rel2 rr2 => ?_⟩
  refine ⟨c, h2, μ2, _, E, rs.ext (e1.trans e2), rel2, w2, hE, fun r3 h3 w3 μ3 H3 z e3 rel3 rr3 => ?_⟩
  obtain ⟨i, ei, w3⟩ := inI_of w3
  obtain ⟨j, ej, w3⟩ := inI_of w3
  obtain ⟨q, eq, w3⟩ := inI_of w3
  subst ei
  subst ej
  subst eq
  obtain ⟨⟨b1, b2, b3, b4, b5, b6⟩, w3⟩ := w3
  exact ⟨i, j, q, _, by rw [rx_int rr1.rx, rx_int rr2.rx, rx_int rr3.rx], rgc_pos b1 b2 b3 b4 b5 b6, ps _ _ _ w3 μ3 H3 _ ((e1.trans e2).trans e3) rel3 wc_rngC⟩
end
end G

namespace G
open PySem PySem.Spec PyProof.Rows L2
/-! ### len of an instance -/
section
variable {prog : Program} {w : World} {A : Around} {E : Value → Shared → Prop} {s : Shared} {K : PySem.W.Frag} {x C f : Addr} {ox : Obj} {od : Option Obj}
theorem len_own {Q : Value → Shared → Prop} (kin : K.In s.heap) (I : PySem.W.InstAt s.heap x ox C od) (hs : PySem.W.findIn K (.ref C) "__len__" = some (some (.ref f))) (hf : PySem.W.isFn K (.ref f) = true)
    (hcall : wpAny (model prog w) A.in1 (call (.ref f) [.ref x]) (fun r s2 => ∃ (n : Int) (t : Tok), r = .int n t ∧ 0 ≤ n ∧ n < 2 ^ 63 ∧ Q (.int n s2.toks) { s2 with toks := s2.toks + 1 }) E s) : wpAny (model prog w) A (call (.builtin "len") [.ref x]) Q E s := by
  have body : wpAny (model prog w) A.in1 (Builtin.«len» ⟨[.ref x], []⟩) (fun fin s2 => ∃ v, fin = .done (.ret v) ∧ Q v s2) E s := by
    unfold Builtin.«len»
    refine wpAny_bind (wpAny_pure ?_)
    refine wpAny_bind (PySem.W.special_fn kin I hs (beq_iff_eq.mp hf) (wpAny_mono hcall (fun r s2 hr => ?_) fun _ _ y => y))
    obtain ⟨n, t, rfl, h0, h1, hq⟩ := hr
    refine wpAny_bind (wpAny_holding (wpAny_pure (wpAny_bind (wpAny_letGo ?_))))
    rw [if_neg (by omega), if_neg (by omega)]
    exact wpAny_bind (wpAny_mkInt (wpAny_pure ⟨_, rfl, hq⟩))
  exact Calls.call_function_entry kind_len plain_len entry_len (args_len1 _) body
end
section
variable {X : Cx} {K : PySem.W.Frag} {H H0 H1 H' : Hp} {μ μ0 μ1 μ' : Mu} {h h1 : CH}
/-- a class with an own __len__, one step further in -/
structure LOk (X : Cx) (C : Addr) (sp : Spec) (n : Nat) (ds : List CV) : Prop where
  ex : ∃ (f : Addr) (fd : FuncData) (k : Nat) (ps : List Str) (dvs : List V) (dus : List Value), Meth X.K C "__len__" f ∧ FnOk X.prog X.w X.K X.mg X.base CX0 k f fd ps (simSp X.K n sp) ∧ Room (k + 1) X.A ∧ Binds X.K fd ps dus ∧ Vals dvs dus ∧ DV X.K ds dvs
theorem run_in {CX : CXT} {k : Nat} {f : Addr} {fd : FuncData} {ps : List Str} {ds : List Value} {dvs : List V} {sp : Sp} {pins : List (Addr × Obj)} {σ : L2.St} {H : Hp} {s : Shared} {Q : VK} {E : XK} {us : List Value} {vs : List V} (F : FnOk X.prog X.w X.K X.mg X.base CX k f fd ps sp) (hr : Room (k + 1) X.A) (hb : Binds X.K fd ps ds) (hd : Vals dvs ds) (hx : Passes CX X E)
    (I : Inv X pins σ H s) (r : Vals vs us) (h : sp (vs ++ dvs) H Q E) : wpAny (model X.prog X.w) X.A.in1 (call (.ref f) us) (EP X pins σ Q) X.xe s := by
  have r2 := r.append hd
  have hl : (us ++ ds).length = ps.length := by rw [← r2.length]; exact F.len _ _ _ _ h
  refine wpAny_call (codeAny_mono (F.run X.A.in1 X.stack s H ⟨us, []⟩ (us ++ ds) (vs ++ dvs) Q E hr.in1 I.env0.in1 (hb s us I.kIn hl) r2 h) fun r s' hq => ?_)
  cases r with
  | error e => exact hx pins σ H s e s' I hq
  | ok fl => cases fl <;> first | exact I.after hq | exact False.elim hq
theorem s_lenI {e : Expr} {p pos : Pos} {ie : CE} {tb : List (Addr × Spec × Nat × List CV)} (hg : Gl X "len") (hm : X.mg "len" = none) (he : PE X e (tE X.K (wE ie))) (ht : ∀ C sp n ds, look tb C = some (sp, n, ds) → LOk X C sp n ds) (hst : stars [e] = false) :
    PE X (.Call (.Name "len" p) [e] [] pos) (tE X.K (wE (.lenI tb ie))) := by
  obtain ⟨s1, _⟩ := stars_cons hst
  have cr : CallR X (.builtin "len") (fun xs H Q => ∃ H0 μ0 h μ r x k E, xs = [x] ∧ Ext H0 μ0 H μ ∧ Rel X.K μ h H ∧ RR X.K H0 H μ r x ∧ lenR tb r h k E ∧ (∀ x h', ¬ E x h') ∧ Post X.K H0 μ0 k Q) := fun pins s σ H xs us Q I rs ⟨H0, μ0, h, μ, r, x, k, E, ex, e0, rel, rr, w, hE, ps⟩ => by
    subst ex
    have own : ∀ {C dx q : Addr} {vs : List (Str × V)} {cv : CV} {sp : Spec} {n : Nat} {ds : List CV}, look tb C = some (sp, n, ds) → H q = some (.ins C dx vs) → RV X.K H μ cv (.ref q) → x = .ref q → ((cv :: ds).length = n ∧ ap sp (cv :: ds) h (fun r h1 => inI r fun i => (0 ≤ i ∧ i < 2 ^ 63) ∧ k (.v (.int i)) h1) E) →
        wpAny (model X.prog X.w) X.A (call (.builtin "len") us) (EP X pins σ Q) X.xe s := fun {C dx q vs cv sp n ds} hl hq rcv ex ⟨hn, w⟩ => by
      subst ex
      obtain ⟨f, fd, j, pss, dvs, dus, M, F, hr, hb, hv, hd⟩ := (ht C sp n ds hl).ex
      obtain ⟨u, rfl, ru⟩ := Vals.one rs
      cases (show u = Value.ref q from ru)
      obtain ⟨mA, O, _⟩ := ins_get I.hok hq
      obtain ⟨od, IA, _⟩ := O.look
      refine len_own I.kIn IA M.at_ M.fn (wpAny_mono (run_in (Q := fun v H2 => ∃ i, v = .int i ∧ (0 ≤ i ∧ i < 2 ^ 63) ∧ Q (.int i) H2) (us := [.ref q]) (vs := [.ref q]) F hr hb hv (E := E0) pass0 I (.cons rfl .nil) ?_) (fun v s2 hv => ?_) fun _ _ y => y)
      · refine ⟨cv :: ds, h, μ, _, E, hn, rel, .cons rcv (hd _ _), w, hE, fun r2 h2 w2 μ2 H2 y e2 rel2 rr2 => ?_⟩
        obtain ⟨i, rfl, b, w2⟩ := inI_of w2
        exact ⟨i, rx_int rr2.rx, b, ps _ _ w2 μ2 H2 _ (e0.trans e2) rel2 (show RV X.K H2 μ2 (.int i) (.int i) from .int i)⟩
      · obtain ⟨y, H2, I2, ry, i, rfl, b, q2⟩ := hv
        obtain ⟨t, rfl⟩ := ry
        exact ⟨i, t, rfl, b.1, b.2, .int i, H2, I2.tok _, ⟨_, rfl⟩, q2⟩
    unfold lenR at w
    split at w
    · obtain ⟨t, hl, w⟩ := oP_of w
      cases (show RV X.K H μ (.obj _ _ _) x from rr) with
      | obj z hp hl2 r => exact own hl hp (.obj z hp hl2 r) rfl w
    · rename_i a
      split at w
      · rename_i C fs ha
        obtain ⟨t, hl, w⟩ := oP_of w
        cases (show RV X.K H μ (.ref a) x from rr) with
        | ref hx =>
        obtain ⟨dx, vs, hp, rf⟩ := rel.ob a _ _ ha hx
        exact own hl hp (.ref hx) rfl w
      · exact c_len pins s σ H _ us Q I rs ⟨H0, h, μ, _, k, rel, .cons rr .nil (fun _ _ i _ z => by simp at z), w, ps.on e0 rel⟩
    · exact c_len pins s σ H _ us Q I rs ⟨H0, h, μ, _, k, rel, .cons rr .nil (fun _ _ i _ z => by simp at z), w, ps.on e0 rel⟩
  refine PE.imp (pe_callB cr hg hm (by decide +kernel) (pa_cons he pa_nil (starEach_cons s1)) (by decide) (by decide) (starEach_cons s1) rfl) fun σ H Q ⟨c, h, μ, k, E, rs, rel, w, hE, ps⟩ => ?_
  exact ⟨c, h, μ, _, E, rs, rel, w, hE, fun r1 h1 w1 μ1 H1 x e1 rel1 rr1 => ⟨H, μ, h1, μ1, r1, x, k, E, rfl, e1, rel1, rr1, w1, hE, ps⟩⟩
/-! ### len(range(n)) -/
theorem pe_lenRg {e : Expr} {p pos : Pos} {te : L2.St → Hp → (Int → Int → Hp → Prop) → Prop} (hg : Gl X "len") (hm : X.mg "len" = none) (he : PRg X e te) (na : starEach [e] X.env = (false, eval e X.env) :: starEach [] X.env) (hpl : (backTo pos (starEach [] X.env)).any (·.1) = false := by rfl) :
    PE X (.Call (.Name "len" p) [e] [] pos) (fun σ H Q => te σ H fun a b H1 => (b - a).toNat < 2 ^ 63 ∧ Q (.int ((b - a).toNat : Nat)) H1) := by
  refine ⟨fun pins s σ H Q I h => ?_⟩
  refine Call_ (ld_blt I hg hm boot_len (PyProof.Rows.callWith_builtin1 (args_cons (thn (he pins s σ H _ I h) fun x s1 ⟨r, a, b, t, u, v, H1, ex, hr, I1, hz, q⟩ => args_nil ?_) na) na hpl))
  subst ex
  exact call_len_range hr ((by rw [rsz_pos (by decide)]; congr 1; simp)) (by omega) ⟨.int _, H1, I1.tok _, ⟨_, rfl⟩, q⟩
theorem s_lnrg {p p2 pos2 pos : Pos} {a : Expr} {ia : CE} (hg : Gl X "len") (hm : X.mg "len" = none) (hg2 : Gl X "range") (hm2 : X.mg "range" = none) (ha : PE X a (tE X.K (wE ia))) (hst : stars [a] = false) (hst2 : stars [Expr.Call (.Name "range" p2) [a] [] pos2] = false) :
    PE X (.Call (.Name "len" p) [.Call (.Name "range" p2) [a] [] pos2] [] pos) (tE X.K (wE (.lnrg ia))) := by
  obtain ⟨s1, s2⟩ := stars_cons hst
  obtain ⟨s3, _⟩ := stars_cons hst2
  exact PE.imp (pe_lenRg hg hm (prg_1 (p := p2) (pos := pos2) hg2 hm2 ha (starEach_cons s1)) (starEach_cons s3)) fun σ H Q ⟨c, h, μ, k, E, rs, rel, w, hE, ps⟩ => by
    refine ⟨c, h, μ, _, E, rs, rel, w, hE, fun r1 h1 w1 μ1 H1 x e1 rel1 rr1 => ?_⟩
    obtain ⟨j, ej, w2⟩ := inI_of w1
    subst ej
    refine ⟨j, rx_int rr1.rx, by have := w2.1; omega, ?_⟩
    have q := (ps.on e1 rel1).int w2.2 rel1
    rw [Int.sub_zero]
    exact q
end
end G

namespace G
open PySem PySem.Spec PyProof.Rows L2
/-! xs[a:b:c]; x, *y = xs -/
section
variable {X : Cx} {K : PySem.W.Frag} {H H0 H1 H' : Hp} {μ μ0 μ1 μ' : Mu} {h h1 : CH}
theorem vals_pick {xs : List V} {us : List Value} (r : Vals xs us) : ∀ is : List Nat, Vals (is.filterMap (xs[·]?)) (is.filterMap (us.toArray[·]?))
  | [] => .nil
  | i :: is => by
    rw [List.filterMap_cons, List.filterMap_cons]
    cases e : xs[i]? with
    | none =>
      have e2 : us.toArray[i]? = none := by simpa using r.none_of e
      rw [e2]
      exact vals_pick r is
    | some x =>
      obtain ⟨u, e2, ru⟩ := r.get e
      have e3 : us.toArray[i]? = some u := by simpa using e2
      rw [e3]
      exact .cons ru (vals_pick r is)
theorem rvs_pick {xs : List CV} {vs : List V} (r : RVs K H μ xs vs) : ∀ is : List Nat, RVs K H μ (is.filterMap (xs[·]?)) (is.filterMap (vs[·]?))
  | [] => .nil
  | i :: is => by
    rw [List.filterMap_cons, List.filterMap_cons]
    cases e : xs[i]? with
    | none =>
      have e2 : vs[i]? = none := by
        rw [List.getElem?_eq_none_iff] at e ⊢
        rw [← r.length]; exact e
      rw [e2]
      exact rvs_pick r is
    | some x =>
      obtain ⟨u, e2, ru⟩ := r.get e
      rw [e2]
      exact .cons ru (rvs_pick r is)
def pickV (xs : List V) (lo hi st : Option Int) : List V := (sliceRange (sliceBounds lo hi st xs.length).1 (sliceBounds lo hi st xs.length).2.1 (sliceBounds lo hi st xs.length).2.2).filterMap (xs[·]?)
def tSl3 (K : PySem.W.Frag) (te : TE) (tl th ts : TO) : TE := fun σ H Q => te σ H fun x H1 => tl σ H1 fun l H2 => th σ H2 fun u H3 => ts σ H3 fun c H4 => ∃ a xs, x = .ref a ∧ SqL K H4 a xs ∧ c ≠ some 0 ∧ ∀ p, H4 p = none → Q (.ref p) (upd H4 p (.lst (pickV xs l u c)))
theorem pe_sl3 {e : Expr} {te : TE} {lo hi : Option Expr} {st : Expr} {tl th ts : TO} {p2 pos : Pos} (he : PE X e te) (hl : PO X lo tl) (hu : PO X hi th) (hst : PO X (some st) ts) : PE X (.Subscript e (.Slice lo hi (some st) p2) pos) (tSl3 X.K te tl th ts) := by
  refine ⟨fun pins s σ H Q I h => ?_⟩
  refine Subscript_ (thn (he.run pins s σ H _ I h) fun v s1 ⟨x, H1, I1, r1, q1⟩ => ?_)
  refine wpAny_Slice (thn (hl.run pins s1 σ H1 _ I1 q1) fun vl s2 ⟨l, H2, I2, pl, q2⟩ => ?_)
  refine thn (hu.run pins s2 σ H2 _ I2 q2) fun vu s3 ⟨u, H3, I3, pu, q3⟩ => ?_
  refine thn (hst.run pins s3 σ H3 _ I3 q3) fun vs s4 ⟨o, H4, I4, ps, q4⟩ => ?_
  obtain ⟨a, xs, rfl, hx, hne, q⟩ := q4
  cases r1
  have I5 : Inv X pins σ H4 { s4 with heap := s4.heap.push { cls := .type "slice", data := .fields #[vl, vu, vs] } } := I4.kept (t' := s4.toks) fun b ob q => Heap.get?_push_of_some _ q
  obtain ⟨its, r, ht, hz⟩ := I5.list hx
  have hlen := r.length
  show wpAny (model X.prog X.w) X.A (subscriptTail e (.Slice lo hi (some st) p2) (.ref a) (.ref s4.heap.objs.size)) (EP X pins σ Q) X.xe { s4 with heap := s4.heap.push { cls := .type "slice", data := .fields #[vl, vu, vs] } }
  refine tail_any (ops := [.ref a, .ref s4.heap.objs.size]) ht.isList.typeIs (PySem.slot_list_getitem.lookup) ?_ (by with_unfolding_all rfl)
  refine wpAny_getItem_list_slice ht.isList (Heap.IsSliceOf.new _ vl vu vs) pl pu ps hne ?_ (by rw [List.size_toArray]; omega)
  have hz2 := slicePick_size_le its.toArray l u o
  have rp : Vals (pickV xs l u o) (slicePick its.toArray l u o).toList := by
    unfold pickV slicePick
    rw [List.size_toArray, ← hlen]
    exact vals_pick r _
  refine ⟨.ref _, _, I5.laid (t' := s4.toks) (o := .lst (pickV xs l u o)) (fun b ob q => Heap.get?_push_of_some _ q) (Nat.le_refl _) ?_, rfl, q _ (I5.hok.fresh (Nat.le_refl _))⟩
  refine ⟨?_, _, 0, rp, Heap.get?_push_size _ rfl⟩
  rw [rp.length, Array.length_toList]
  have e1 : its.toArray.size = its.length := List.size_toArray ..
  omega
theorem s_sl3 {a st : Expr} {lo hi : Option Expr} {p2 pos : Pos} {ia : CE} {il ih is : CO1} (ha : PE X a (tE X.K (wE ia))) (hl : PO X lo (tO X.K (wO il))) (hh : PO X hi (tO X.K (wO ih))) (hs : PO X (some st) (tO X.K (wO is))) : PE X (.Subscript a (.Slice lo hi (some st) p2) pos) (tE X.K (wE (.sl3 ia il ih is))) :=
  PE.imp (pe_sl3 ha hl hh hs) fun σ H Q ⟨c, h, μ, k, E, rs, rel, w, hE, ps⟩ => by
    refine ⟨c, h, μ, _, E, rs, rel, w, hE, fun r1 h1 w1 μ1 H1 x e1 rel1 rr1 => ?_⟩
    refine ⟨c, h1, μ1, _, E, rs.ext e1, rel1, w1, hE, fun l h2 w2 μ2 H2 e2 rel2 => ?_⟩
    refine ⟨c, h2, μ2, _, E, rs.ext (e1.trans e2), rel2, w2, hE, fun u h3 w3 μ3 H3 e3 rel3 => ?_⟩
    refine ⟨c, h3, μ3, _, E, rs.ext (e1.trans (e2.trans e3)), rel3, w3, hE, fun t h4 w4 μ4 H4 e4 rel4 => ?_⟩
    have w4 : oP (lsOf r1 h4) fun xs => t ≠ some 0 ∧ k (.al (pickC xs l u t)) h4 := w4
    obtain ⟨xs, eq, hne, w4⟩ := oP_of w4
    have e5 := e2.trans (e3.trans e4)
    obtain ⟨p, vs, rfl, sq, rv, _⟩ := lsOf_sq rel4 (rr1.rx.ext e5) eq
    refine ⟨p, vs, rfl, sq, hne, fun q n => (ps.on (e1.trans e5) rel4).al w4 rel4 ?_ n⟩
    unfold pickC pickV
    rw [rv.length]
    exact rvs_pick rv _
/-- x, *y = a list -/
def gStar (K : PySem.W.Frag) (i j : Nat) : TG := fun v σ H Q => ∃ l x xs, v = .ref l ∧ SqL K H l (x :: xs) ∧ ∀ p, H p = none → Q ((σ.set i (some x)).set j (some (.ref p))) (upd H p (.lst xs))
theorem pg_star {i j k : Nat} {x y : Str} {px py ps pos : Pos} (hc : X.calm = true) (hN : X.N.Nodup) (hi : X.N[i]? = some x) (hj : X.N[j]? = some y) (hx : Loc X.env.scope x) (hy : Loc X.env.scope y)
    (fx : X.fn x = true ∨ X.env.scope.names.lookup x = some .local) (fy : X.fn y = true ∨ X.env.scope.names.lookup y = some .local) : PG X (.Tuple [.Name x px, .Starred (.Name y py) ps] k pos) (gStar X.K i j) := by
  refine ⟨fun pins s σ H v u Q I r hw => ?_⟩
  obtain ⟨l, a, xs, rfl, hq, hw⟩ := hw
  cases r
  obtain ⟨its, rv, pl, hz⟩ := I.list hq
  cases rv with
  | @cons _ u0 _ us r0 rr =>
  have hl : s.heap.IsList l (u0 :: us).toArray := by
    obtain ⟨o, m, e, c, d, q⟩ := pl
    exact ⟨o, e, c, m, q⟩
  have hlt : l ≠ s.heap.objs.size := by obtain ⟨o, ho, _⟩ := hl; exact Nat.ne_of_lt (Heap.lt_size ho)
  have hsz : (u0 :: us).toArray.size = us.length + 1 := by simp
  have hh := I.ok.hd hc
  have hxl : xs.length = us.length := rr.length
  have hz' : us.length + 1 ≤ sizeLine := by rw [← hxl]; exact hz
  rw [PyProof.Rows.assign_Tuple]
  refine wpAny_bind (wpAny_standAt ?_)
  unfold unpack
  show wpAny (model X.prog X.w) X.A (holding [Value.ref l] (unpackItems (.ref l) 2 (some 1)) >>= fun vs => assignInOrder [assign (.Name x px) X.env, assign (.Name y py) X.env] vs) _ _ s
  refine wpAny_bind (wpAny_holding ?_)
  unfold unpackItems
  refine wpAny_bind ?_
  unfold notIterableAtAll
  refine wpAny_bind (wpAny_specialOf hl.typeIs slot_list_iter.lookup ?_)
  refine wpAny_pure ?_
  simp only [Bool.false_eq_true, if_false]
  refine wpAny_bind (wpAny_holding (wpAny_pyIter_list hl ?_))
  refine wpAny_bind (wpAny_holding (PySem.W.kun_draw hlt 1 0 _ _ ⟨_, Heap.get?_push_size _ rfl, rfl, rfl⟩ (hl.push _) (by omega) fun h₁ hit₁ hs₁ => ?_))
  have hl₁ : h₁.IsList l (u0 :: us).toArray := (hl.push _).extBut hs₁.extBut hlt
  rw [Nat.zero_add] at hit₁
  have hit₁' := hit₁
  obtain ⟨oi, hoi, _⟩ := hit₁'
  have hl₁' := hl₁
  obtain ⟨ol, hol, _⟩ := hl₁'
  have ef : List.take 1 (List.drop 0 (u0 :: us).toArray.toList) = [u0] := by simp
  rw [ef]
  rw [if_neg (show ¬ ([u0].length < 1) by simp)]
  refine wpAny_bind (wpAny_holding (PySem.W.kun_collect (s := { s with heap := h₁ }) (T := "list_iterator") (.inr (.inr (.inl rfl))) (Walks.list (A := X.A.in1) hh s.heap.objs.size l hlt (u0 :: us).toArray) (fun j u st => st.1.typeIs) (k := 1) (by omega) ⟨hit₁, hl₁⟩ (Heap.lt_size hoi) (Heap.lt_size hol) (fun h₂ tk hk => ?_) (by omega)))
  have ed : List.drop 1 (u0 :: us).toArray.toList = us := by simp
  rw [ed]
  show wpAny _ _ (if us.length < 0 then _ else _) _ _ _
  rw [if_neg (by omega)]
  show wpAny _ _ (newList (us.take (us.length - 0)) >>= fun d => pure ([u0] ++ [d] ++ us.drop (us.length - 0))) _ _ _
  rw [Nat.sub_zero, List.take_length, List.drop_length]
  have he : Heap.ExtBut s.heap.objs.size s.heap h₂ := fun b o hb e => hk b o hb (hs₁.extBut b o hb (Heap.get?_push_of_some _ e))
  have I2 : Inv X pins σ H { s with heap := h₂, toks := tk } := I.kept (t' := tk) fun b o e => he b o (Nat.ne_of_lt (Heap.lt_size e)) e
  refine wpAny_bind (wpAny_newList (wpAny_pure ?_) (by omega))
  have I3 := I2.laid (t' := tk) (o := .lst xs) (h' := h₂.push { cls := .type "list", data := .seq us.toArray }) (fun b ob q => Heap.get?_push_of_some _ q) (Nat.le_refl _) ⟨by omega, _, 0, rr, Heap.get?_push_size _ rfl⟩
  have q2 := hw _ (I2.hok.fresh (Nat.le_refl _))
  show wpAny _ _ (assignInOrder [assign (.Name x px) X.env, assign (.Name y py) X.env] [u0, .ref h₂.objs.size]) _ _ _
  refine assignInOrder_cons (thn ((pg_name (pos := px) hN hi hx fx).run pins _ σ _ _ _ (fun σ1 H1 => σ1 = σ.set i (some a) ∧ H1 = upd H h₂.objs.size (.lst xs)) I3 r0 ⟨rfl, rfl⟩) fun _ s1 ⟨σ1, H1, I4, e1, e2⟩ => ?_)
  subst e1 e2
  exact assignInOrder_cons (thn ((pg_name (pos := py) hN hj hy fy).run pins _ _ _ (.ref h₂.objs.size) _ _ I4 rfl q2) fun _ s2 ⟨σ2, H2, I5, q5⟩ => assignInOrder_nil ⟨σ2, H2, I5, q5⟩)
theorem b_star {i j k : Nat} {x y : Str} {px py p2 p3 pos : Pos} {e : Expr} {ie : CE} (hg : PG X (.Tuple [.Name x px, .Starred (.Name y py) p2] k p3) (gStar X.K i j)) (he : PE X e (tE X.K (wE ie)))
    (hs : swapsWithSole [.Tuple [.Name x px, .Starred (.Name y py) p2] k p3] e pos.line X.env = pure false) (hw : swappedStores [.Tuple [.Name x px, .Starred (.Name y py) p2] k p3] e X.env = pure none) :
    PS X (.Assign [.Tuple [.Name x px, .Starred (.Name y py) p2] k p3] e pos) (tS X.K (wS (.asgS i j ie))) :=
  PS.imp (ps_asg he hg hs hw rfl) fun D σ H ⟨c, h, μ, C, rs, rel, w, o⟩ => by
    refine ⟨c, h, μ, _, _, rs, rel, w, o.ex, fun r h' w' μ' H' x e' rel' rr => ?_⟩
    dsimp only at w'
    obtain ⟨xs, eq, w'⟩ := oP_of w'
    obtain ⟨p, vs, rfl, sq, rv, _⟩ := lsOf_sq rel' rr.rx eq
    cases rv with
    | nil => exact w'.elim
    | @cons cx v0 cr vr r0 rr0 =>
      refine ⟨p, v0, vr, rfl, sq, fun q n => ?_⟩
      have e4 : Ext H' μ' (upd H' q (.lst vr)) μ' := ext_laid n
      have a : RR X.K H' (upd H' q (.lst vr)) μ' (.al cr) (.ref q) := ⟨q, vr, rfl, n, rel'.notMem n, upd_same, rr0.ext e4⟩
      obtain ⟨d, h2, μ2, w2, e2, rel2, rv2, up⟩ := adopt_ok (q := fun d h2 => C.nx (sv (sv c i cx) j d) h2) e4 (rel'.laid n) a w'
      exact o.nx _ _ w2 μ2 _ _ (e'.trans e2) rel2 (((up_rs up ((rs.ext e').ext e4)).put (up _ _ (r0.ext e4))).put rv2)
/-- a, b = x, y where the names are no fast locals: by a tuple -/
theorem b_par0 {es vs : List Expr} {is : List Nat} {ts : CTs} {ia : CA} {kt k2 : Nat} {pt pt2 pos : Pos} (ha : PA X vs (tA X.K (wA ia))) (hg : PG X (.Tuple es kt pt) (tG X.K (.tup ts)))
    (hs : swapsWithSole [.Tuple es kt pt] (.Tuple vs k2 pt2) pos.line X.env = pure false) (hw : swappedStores [.Tuple es kt pt] (.Tuple vs k2 pt2) X.env = pure none) (hl3 : is.length ≤ 3)
    (hG : ∀ c xs, xs.length = is.length → wGs ts xs c = some (svs c is xs)) : PS X (.Assign [.Tuple es kt pt] (.Tuple vs k2 pt2) pos) (tS X.K (wS (.asgD is ia))) :=
  PS.imp (ps_asg (pe_tup ha) hg hs hw rfl) fun D σ H ⟨c, h, μ, C, rs, rel, w, o⟩ => by
    refine ⟨c, h, μ, _, _, rs, rel, w, o.ex, fun rs2 h2 w2 μ2 H2 xs e2 rel2 rr2 => ?_⟩
    obtain ⟨cs, h3, μ3, ⟨hl, w3⟩, e3, rel3, rv, up⟩ := adopts_ok e2 rel2 rr2 w2
    have hlen : xs.length = is.length := by rw [← rv.length]; exact hl
    have h9 : 3 ≤ sizeLine := by decide
    refine ⟨by omega, fun p n => ?_⟩
    have e4 : Ext H2 μ3 (upd H2 p (.tup xs)) μ3 := ext_laid n
    have rel4 := rel3.laid (o := .tup xs) n
    exact ⟨c, h3, μ3, .tup cs, svs c is cs, (up_rs up (rs.ext e2)).ext e4, rel4, .tup (.inl ⟨.inl upd_same, rel3.notMem n⟩) (rv.ext e4), hG c cs hl, fun σ2 rs2 _ => o.nx _ _ w3 μ3 _ _ (e3.trans e4) rel4 rs2⟩
end
end G

/-! zip of two, each a list or a tuple -/
namespace G
open PySem PySem.Spec PyProof.Rows L2
/-- an iterator of a tuple (true) or of a list (false) -/
def ItK : Bool → Heap → Addr → Addr → Nat → Prop
  | true, h, it, l, i => h.IsTupleIter it l i
  | false, h, it, l, i => h.IsListIter it l i
def SqK : Bool → Heap → Addr → Array Value → Prop
  | true, h, l, xs => h.IsTuple l xs
  | false, h, l, xs => h.IsList l xs
/-- a new iterator -/
def itK0 (b : Bool) (l : Addr) : Obj := { cls := .type (bif b then "tuple_iterator" else "list_iterator"), data := .fields #[.ref l, .int 0 0] }
section
variable {a : Addr} {prog : Program} {w : World} {A : Around} {E : Value → Shared → Prop} {s : Shared} {b1 b2 b : Bool} {h h' : Heap}
theorem ItK.mv {it l : Addr} {i : Nat} (q : ItK b h it l i) (k : ∀ o, h.get? it = some o → h'.get? it = some o) : ItK b h' it l i := by
  cases b <;> (obtain ⟨o, e, r⟩ := q; exact ⟨o, k o e, r⟩)
theorem SqK.mv {l : Addr} {xs : Array Value} (q : SqK b h l xs) (k : ∀ o, h.get? l = some o → h'.get? l = some o) : SqK b h' l xs := by
  cases b <;> (obtain ⟨o, e, r⟩ := q; exact ⟨o, k o e, r⟩)
theorem ItK.lt {it l : Addr} {i : Nat} (q : ItK b h it l i) : it < h.objs.size := by
  cases b <;> (obtain ⟨o, e, r⟩ := q; exact Heap.lt_size e)
theorem ItK.obj {it l : Addr} {i : Nat} (q : ItK b h it l i) : ∃ o, h.get? it = some o ∧ ∃ vs, o.data = .fields vs := by
  cases b <;> (obtain ⟨o, e, _, d⟩ := q; exact ⟨o, e, _, d⟩)
theorem SqK.lt {l : Addr} {xs : Array Value} (q : SqK b h l xs) : l < h.objs.size := by
  cases b <;> (obtain ⟨o, e, r⟩ := q; exact Heap.lt_size e)
theorem nextK {it l : Addr} {i : Nat} {xs : Array Value} {x : Value} {Q : Value → Shared → Prop} (hit : ItK b s.heap it l i) (hl : SqK b s.heap l xs) (hx : xs[i]? = some x)
    (hQ : ∀ h', ItK b h' it l (i + 1) → Heap.SameBut it s.heap h' → Q x { s with heap := h' }) : wpAny (model prog w) A (Builtin.SmallTypes.nextOf (.ref it)) Q E s := by
  cases b
  · exact wpAny_nextOf_list_item hit hl hx hQ
  · exact _root_.RZ.nextOf_tuple_item hit hl hx hQ
theorem nextK_end {it l : Addr} {i : Nat} {xs : Array Value} {Q : Value → Shared → Prop} (hh : A.handled = none) (hit : ItK b s.heap it l i) (hl : SqK b s.heap l xs) (hx : xs[i]? = none)
    (hE : ∀ h' e, Heap.ExtBut it s.heap h' → (∃ o, h'.get? e = some o ∧ o.cls = .type "StopIteration") → E (.ref e) { s with heap := h' }) : wpAny (model prog w) A (Builtin.SmallTypes.nextOf (.ref it)) Q E s := by
  cases b
  · exact wpAny_nextOf_list_end hh hit hl hx hE
  · exact _root_.RZ.nextOf_tuple_end hh hit hl hx hE
theorem iterK {l : Addr} {xs : Array Value} {Q : Value → Shared → Prop} (hl : SqK b s.heap l xs) (hQ : Q (.ref s.heap.objs.size) { s with heap := s.heap.push (itK0 b l) }) : wpAny (model prog w) A (pyIter (.ref l)) Q E s := by
  cases b
  · exact wpAny_pyIter_list hl hQ
  · exact wpAny_pyIter_tuple hl hQ
theorem itK0_at {l : Addr} (g : h.get? a = some (itK0 b l)) : ItK b h a l 0 := by
  cases b <;> exact ⟨_, g, rfl, rfl⟩
/-- an object's first field of a zip, the zip as it stands -/
theorem zipK_draw {z TI TO i1 i2 l1 l2 : Addr} {k1 k2 : Nat} {xs ys : Array Value} {x y u v : Value} {Q : Value → Shared → Prop} (D : ZipApart z TI TO i1 i2 l1 l2)
    (hz : IsZip s.heap z TI TO .none) (hTI : IsPair s.heap TI (.ref i1) (.ref i2)) (hTO : IsPair s.heap TO u v) (h1 : ItK b1 s.heap i1 l1 k1) (h2 : ItK b2 s.heap i2 l2 k2) (hl1 : SqK b1 s.heap l1 xs) (hl2 : SqK b2 s.heap l2 ys)
    (hx : xs[k1]? = some x) (hy : ys[k2]? = some y)
    (hQ : ∀ h', IsZip h' z TI TO (rawInt s.heap.objs.size) → IsPair h' TO x y → ItK b1 h' i1 l1 (k1 + 1) → ItK b2 h' i2 l2 (k2 + 1) → IsPair h' s.heap.objs.size x y → h'.objs.size = s.heap.objs.size + 1 →
      (∀ c o, c ≠ z → c ≠ TO → c ≠ i1 → c ≠ i2 → s.heap.get? c = some o → h'.get? c = some o) → Q (.ref s.heap.objs.size) { s with heap := h' }) :
    wpAny (model prog w) A (Builtin.«zip.__next__» ⟨[.ref z], []⟩) (fun fin s' => ∃ v, fin = .done (.ret v) ∧ Q v s') E s := by
  refine wpAny_bind (m := field (.ref z) 2) (wpAny_field hz rfl (x := .bool false) rfl (wpAny_bind (m := field (.ref z) 3) (wpAny_field hz rfl (x := .ref TI) rfl (wpAny_bind (wpAny_seqItems hTI rfl ?_)))))
  refine wpAny_bind (m := Builtin.SmallTypes.ownedTupleIsFree (.ref z)) ?_
  unfold Builtin.SmallTypes.ownedTupleIsFree
  refine wpAny_bind (wpAny_field hz rfl (x := .none) rfl (wpAny_pure ?_))
  rw [if_pos rfl]
  refine wpAny_bind (wpAny_rule (wpAny_bind (wpAny_field hz rfl (x := .ref TO) rfl (wpAny_bind (wpAny_setField_rec hz (by simp) fun ha za sa => ?_)))))
  have za : IsZip ha z TI TO .ellipsis := za
  refine wpAny_bind ?_
  simp only [List.zipIdx_cons, List.zipIdx_nil, List.forIn_cons, List.forIn_nil]
  have ka : ∀ c o, c ≠ z → s.heap.get? c = some o → ha.get? c = some o := fun c o n q => sa.extBut _ _ n q
  refine wpAny_bind (wpAny_bind (wpAny_onRaise (wpAny_bind (m := Builtin.SmallTypes.nextOf (.ref i1)) (nextK (h1.mv (ka _ · D.i1z)) (hl1.mv (ka _ · D.l1z)) hx fun hb hb1 sb => wpAny_pure ?_))))
  have kb : ∀ c o, c ≠ z → c ≠ i1 → s.heap.get? c = some o → hb.get? c = some o := fun c o n m q => sb.extBut _ _ m (ka c o n q)
  refine wpAny_bind (wpAny_seqItems (kb _ _ D.TOz D.TOi1 hTO) rfl (wpAny_bind (wpAny_updateSeq_pair (kb _ _ D.TOz D.TOi1 hTO) fun hc hcT sc => wpAny_bind (wpAny_letGo (wpAny_pure ?_)))))
  have hcT : IsPair hc TO x v := hcT
  have kc : ∀ c o, c ≠ z → c ≠ i1 → c ≠ TO → s.heap.get? c = some o → hc.get? c = some o := fun c o n m t q => sc.extBut _ _ t (kb c o n m q)
  refine wpAny_bind (wpAny_bind (wpAny_onRaise (wpAny_bind (m := Builtin.SmallTypes.nextOf (.ref i2)) (nextK (h2.mv (kc _ · D.i2z D.i12.symm D.TOi2.symm)) (hl2.mv (kc _ · D.l2z D.l2i1 D.l2TO)) hy fun hd hd2 sd => wpAny_pure ?_))))
  have hdT : IsPair hd TO x v := sd.extBut _ _ D.TOi2 hcT
  refine wpAny_bind (wpAny_seqItems hdT rfl (wpAny_bind (wpAny_updateSeq_pair hdT fun he heT se => wpAny_bind (wpAny_letGo (wpAny_pure (wpAny_pure ?_))))))
  have heT : IsPair he TO x y := heT
  have ke : ∀ c o, c ≠ z → c ≠ i1 → c ≠ TO → c ≠ i2 → s.heap.get? c = some o → he.get? c = some o := fun c o n m t r q => se.extBut _ _ t (sd.extBut _ _ r (kc c o n m t q))
  have hsz : he.objs.size = s.heap.objs.size := by rw [se.1, sd.1, sc.1, sb.1, sa.1]
  have ze : IsZip he z TI TO .ellipsis := se.extBut _ _ D.TOz.symm (sd.extBut _ _ D.i2z.symm (sc.extBut _ _ D.TOz.symm (sb.extBut _ _ D.i1z.symm za)))
  have e1 : ItK b1 he i1 l1 (k1 + 1) := hb1.mv fun o q => se.extBut _ _ D.TOi1.symm (sd.extBut _ _ D.i12 (sc.extBut _ _ D.TOi1.symm q))
  have e2 : ItK b2 he i2 l2 (k2 + 1) := hd2.mv fun o q => se.extBut _ _ D.TOi2.symm q
  refine wpAny_bind (wpAny_seqItems heT rfl (wpAny_bind (wpAny_newTuple (wpAny_bind (m := Builtin.SmallTypes.ownedTupleHandOut (.ref z) (.ref he.objs.size)) ?_))))
  unfold Builtin.SmallTypes.ownedTupleHandOut
  have zf : IsZip (he.push { cls := .type "tuple", data := .seq #[x, y] }) z TI TO .ellipsis := Heap.get?_push_of_some _ ze
  refine wpAny_bind (wpAny_setField_rec zf (by simp) fun hg zg sg => wpAny_setField_rec (show IsZip hg z TI TO (rawInt he.objs.size) from zg) (by simp) fun hi zi si => wpAny_pure ⟨_, rfl, ?_⟩)
  have zi : IsZip hi z TI TO (rawInt he.objs.size) := zi
  have up : ∀ c o, c ≠ z → (he.push { cls := .type "tuple", data := .seq #[x, y] }).get? c = some o → hi.get? c = some o := fun c o n q => si.extBut _ _ n (sg.extBut _ _ n q)
  have nz : he.objs.size ≠ z := Nat.ne_of_gt (Heap.lt_size ze)
  have hT : IsPair hi he.objs.size x y := up _ _ nz (Heap.get?_push_size _ rfl)
  have hn : hi.objs.size = he.objs.size + 1 := by rw [si.1, sg.1, Heap.size_push]
  have up2 : ∀ c o, c ≠ z → he.get? c = some o → hi.get? c = some o := fun c o n q => up c o n (Heap.get?_push_of_some _ q)
  rw [hsz] at zi hT hn
  show Q (.ref he.objs.size) _
  rw [hsz]
  exact hQ hi zi (up2 _ _ D.TOz heT) (e1.mv fun o q => up2 _ o D.i1z q) (e2.mv fun o q => up2 _ o D.i2z q) hT hn fun c o c1 c2 c3 c4 e => up2 c o c1 (ke c o c1 c3 c2 c4 e)
theorem zipK_stop {z TI TO i1 i2 l1 l2 : Addr} {k1 k2 : Nat} {xs ys : Array Value} {u v : Value} {Q : Fin → Shared → Prop} (hh : A.handled = none) (D : ZipApart z TI TO i1 i2 l1 l2)
    (hz : IsZip s.heap z TI TO .none) (hTI : IsPair s.heap TI (.ref i1) (.ref i2)) (hTO : IsPair s.heap TO u v) (h1 : ItK b1 s.heap i1 l1 k1) (h2 : ItK b2 s.heap i2 l2 k2) (hl1 : SqK b1 s.heap l1 xs) (hl2 : SqK b2 s.heap l2 ys)
    (hend : xs[k1]? = none ∨ ys[k2]? = none)
    (hE : ∀ h' e, (∀ c o, c ≠ z → c ≠ TO → c ≠ i1 → c ≠ i2 → s.heap.get? c = some o → h'.get? c = some o) → (∃ o, h'.get? e = some o ∧ o.cls = .type "StopIteration") → E (.ref e) { s with heap := h' }) :
    wpAny (model prog w) A (Builtin.«zip.__next__» ⟨[.ref z], []⟩) Q E s := by
  refine wpAny_bind (m := field (.ref z) 2) (wpAny_field hz rfl (x := .bool false) rfl (wpAny_bind (m := field (.ref z) 3) (wpAny_field hz rfl (x := .ref TI) rfl (wpAny_bind (wpAny_seqItems hTI rfl ?_)))))
  refine wpAny_bind (m := Builtin.SmallTypes.ownedTupleIsFree (.ref z)) ?_
  unfold Builtin.SmallTypes.ownedTupleIsFree
  refine wpAny_bind (wpAny_field hz rfl (x := .none) rfl (wpAny_pure ?_))
  rw [if_pos rfl]
  refine wpAny_bind (wpAny_rule (wpAny_bind (wpAny_field hz rfl (x := .ref TO) rfl (wpAny_bind (wpAny_setField_rec hz (by simp) fun ha za sa => ?_)))))
  have za : IsZip ha z TI TO .ellipsis := za
  refine wpAny_bind ?_
  simp only [List.zipIdx_cons, List.zipIdx_nil, List.forIn_cons, List.forIn_nil]
  have ka : ∀ c o, c ≠ z → s.heap.get? c = some o → ha.get? c = some o := fun c o n q => sa.extBut _ _ n q
  cases hx : xs[k1]? with
  | none =>
    refine wpAny_bind (wpAny_bind (wpAny_onRaise (wpAny_bind (m := Builtin.SmallTypes.nextOf (.ref i1)) (nextK_end hh (h1.mv (ka _ · D.i1z)) (hl1.mv (ka _ · D.l1z)) hx fun hb e sb ⟨oe, ee, ce⟩ => ?_))))
    have zb : IsZip hb z TI TO .ellipsis := sb _ _ D.i1z.symm za
    have ne : e ≠ z := fun q => by subst q; rw [zb] at ee; cases ee; simp at ce
    exact wpAny_setField_rec zb (by simp) fun hc _ sc => hE hc e (fun c o c1 _ c3 _ q => sc.extBut _ _ c1 (sb _ _ c3 (ka c o c1 q))) ⟨oe, sc.extBut _ _ ne ee, ce⟩
  | some x =>
    have hy : ys[k2]? = none := hend.resolve_left (by rw [hx]; simp)
    refine wpAny_bind (wpAny_bind (wpAny_onRaise (wpAny_bind (m := Builtin.SmallTypes.nextOf (.ref i1)) (nextK (h1.mv (ka _ · D.i1z)) (hl1.mv (ka _ · D.l1z)) hx fun hb hb1 sb => wpAny_pure ?_))))
    have kb : ∀ c o, c ≠ z → c ≠ i1 → s.heap.get? c = some o → hb.get? c = some o := fun c o n m q => sb.extBut _ _ m (ka c o n q)
    refine wpAny_bind (wpAny_seqItems (kb _ _ D.TOz D.TOi1 hTO) rfl (wpAny_bind (wpAny_updateSeq_pair (kb _ _ D.TOz D.TOi1 hTO) fun hc hcT sc => wpAny_bind (wpAny_letGo (wpAny_pure ?_)))))
    have kc : ∀ c o, c ≠ z → c ≠ i1 → c ≠ TO → s.heap.get? c = some o → hc.get? c = some o := fun c o n m t q => sc.extBut _ _ t (kb c o n m q)
    refine wpAny_bind (wpAny_bind (wpAny_onRaise (wpAny_bind (m := Builtin.SmallTypes.nextOf (.ref i2)) (nextK_end hh (h2.mv (kc _ · D.i2z D.i12.symm D.TOi2.symm)) (hl2.mv (kc _ · D.l2z D.l2i1 D.l2TO)) hy fun hd e sd ⟨oe, ee, ce⟩ => ?_))))
    have zd : IsZip hd z TI TO .ellipsis := sd _ _ D.i2z.symm (sc.extBut _ _ D.TOz.symm (sb.extBut _ _ D.i1z.symm za))
    have ne : e ≠ z := fun q => by subst q; rw [zd] at ee; cases ee; simp at ce
    exact wpAny_setField_rec zd (by simp) fun hf _ sf => hE hf e (fun c o c1 c2 c3 c4 q => sf.extBut _ _ c1 (sd _ _ c4 (kc c o c1 c3 c2 q))) ⟨oe, sf.extBut _ _ ne ee, ce⟩
theorem zipK_next {z TI TO i1 i2 l1 l2 : Addr} {k1 k2 : Nat} {xs ys : Array Value} {u v : Value} {Q : Option Value → Shared → Prop} (hh : A.handled = none) (D : ZipApart z TI TO i1 i2 l1 l2)
    (hz : IsZip s.heap z TI TO .none) (hTI : IsPair s.heap TI (.ref i1) (.ref i2)) (hTO : IsPair s.heap TO u v) (h1 : ItK b1 s.heap i1 l1 k1) (h2 : ItK b2 s.heap i2 l2 k2) (hl1 : SqK b1 s.heap l1 xs) (hl2 : SqK b2 s.heap l2 ys)
    (hi : ∀ x y, xs[k1]? = some x → ys[k2]? = some y → ∀ h', IsZip h' z TI TO (rawInt s.heap.objs.size) → IsPair h' TO x y → ItK b1 h' i1 l1 (k1 + 1) → ItK b2 h' i2 l2 (k2 + 1) → IsPair h' s.heap.objs.size x y → h'.objs.size = s.heap.objs.size + 1 →
      (∀ c o, c ≠ z → c ≠ TO → c ≠ i1 → c ≠ i2 → s.heap.get? c = some o → h'.get? c = some o) → Q (some (.ref s.heap.objs.size)) { s with heap := h' })
    (he : (xs[k1]? = none ∨ ys[k2]? = none) → ∀ h', (∀ c o, c ≠ z → c ≠ TO → c ≠ i1 → c ≠ i2 → s.heap.get? c = some o → h'.get? c = some o) → Q none { s with heap := h' }) : wpAny (model prog w) A (pyNext (.ref z)) Q E s := by
  have hT : s.TypeIs (.ref z) "zip" := ⟨_, hz, rfl⟩
  unfold pyNext
  by_cases q : xs[k1]? = none ∨ ys[k2]? = none
  · refine wpAny_bind (wpAny_attempt (wpAny_callSpecial?_slot (name := Str.ofString "__next__") hT F.slot_zip_next
      (wpAny_call_entry F.slot_zip_next hT F.entry_zip_next (zipK_stop hh D hz hTI hTO h1 h2 hl1 hl2 q fun h' e hk ⟨o, ho, hc⟩ => ?_) (F.args_zip_next_1 _))))
    exact wpAny_bind (wpAny_isInstance (T := "StopIteration") (b := true) ⟨o, ho, hc⟩ isSubtype_stop (wpAny_pure (he q _ hk)))
  · obtain ⟨q1, q2⟩ := not_or.mp q
    obtain ⟨x, hx⟩ := Option.ne_none_iff_exists'.mp q1
    obtain ⟨y, hy⟩ := Option.ne_none_iff_exists'.mp q2
    exact wpAny_bind (wpAny_attempt (wpAny_callSpecial?_slot (name := Str.ofString "__next__") hT F.slot_zip_next
      (wpAny_call_entry F.slot_zip_next hT F.entry_zip_next (zipK_draw D hz hTI hTO h1 h2 hl1 hl2 hx hy fun h' a1 a2 a3 a4 a5 a6 a7 => wpAny_pure (hi x y hx hy h' a1 a2 a3 a4 a5 a6 a7)) (F.args_zip_next_1 _))))
abbrev zk4 (b1 b2 : Bool) (h : Heap) (l1 l2 : Addr) : Heap := (((h.push (itK0 b1 l1)).push (itK0 b2 l2)).push { cls := .type "tuple", data := .seq #[.ref h.objs.size, .ref (h.push (itK0 b1 l1)).objs.size] }).push { cls := .type "tuple", data := .seq #[.none, .none] }
abbrev zkH (b1 b2 : Bool) (h : Heap) (l1 l2 : Addr) : Heap := ((((h.push (itK0 b1 l1)).push (itK0 b2 l2)).push { cls := .type "tuple", data := .seq #[.ref h.objs.size, .ref (h.push (itK0 b1 l1)).objs.size] }).push { cls := .type "tuple", data := .seq #[.none, .none] }).push
  { cls := .type "zip", data := .fields #[.none, .bool false, .bool false, .ref ((h.push (itK0 b1 l1)).push (itK0 b2 l2)).objs.size, .ref (((h.push (itK0 b1 l1)).push (itK0 b2 l2)).push { cls := .type "tuple", data := .seq #[.ref h.objs.size, .ref (h.push (itK0 b1 l1)).objs.size] }).objs.size] }
theorem meets_zipK (b1 b2 : Bool) (l1 l2 : Addr) (xs ys : Array Value) :
    Meets (Builtin.«zip.__new__» ⟨[.type "zip", .ref l1, .ref l2], []⟩) (fun _ R s => SqK b1 s.heap l1 xs ∧ SqK b2 s.heap l2 ys ∧ R (.ok (.ret (.ref (zk4 b1 b2 s.heap l1 l2).objs.size))) { s with heap := zkH b1 b2 s.heap l1 l2 }) :=
  .of_wp fun prog w A R s h => by
    obtain ⟨hp, g, d, tk, os⟩ := s
    obtain ⟨q1, q2, h⟩ := h
    have hsub := sub_zip
    have p1 : SqK b1 (Shared.heap ⟨hp, g, d, tk, os⟩) l1 xs := q1
    have p2 : SqK b2 (Shared.heap ⟨hp.push (itK0 b1 l1), g, d, tk, os⟩) l2 ys := SqK.mv q2 fun o e => Heap.get?_push_of_some _ e
    wp_walk using iterK p1, iterK p2
    exact ⟨_, rfl, h⟩
theorem callZipK {l1 l2 : Addr} {xs ys : Array Value} {Q : Value → Shared → Prop} (hl1 : SqK b1 s.heap l1 xs) (hl2 : SqK b2 s.heap l2 ys)
    (h : ∀ h', IsZip h' (s.heap.objs.size + 4) (s.heap.objs.size + 2) (s.heap.objs.size + 3) .none → IsPair h' (s.heap.objs.size + 2) (.ref s.heap.objs.size) (.ref (s.heap.objs.size + 1)) →
      IsPair h' (s.heap.objs.size + 3) .none .none → ItK b1 h' s.heap.objs.size l1 0 → ItK b2 h' (s.heap.objs.size + 1) l2 0 → h'.objs.size = s.heap.objs.size + 5 →
      (∀ c o, s.heap.get? c = some o → h'.get? c = some o) → Q (.ref (s.heap.objs.size + 4)) { s with heap := h' }) :
    wpAny (model prog w) A (call (.type "zip") [.ref l1, .ref l2]) Q E s := by
  refine callType_new F.called_zip (by decide) (F.typeCall_zip_2 _ _) (F.newCall_zip_2 _ _) (fun obj => F.args_object_init_3 obj _ _) F.entry_zip_new
    (meets_zipK b1 b2 l1 l2 xs ys) ⟨hl1, hl2, ?_⟩
  have p : ∀ {h : Heap} {o u : Obj} {c : Addr}, h.get? c = some u → (h.push o).get? c = some u := fun e => Heap.get?_push_of_some _ e
  have n : ∀ {h : Heap} {o : Obj} {k : Nat}, h.objs.size = k → o.isFreed = false → (h.push o).get? k = some o := fun {h o k} e f => by subst e; exact Heap.get?_push_size _ f
  have z1 : (s.heap.push (itK0 b1 l1)).objs.size = s.heap.objs.size + 1 := Heap.size_push ..
  have z2 : ((s.heap.push (itK0 b1 l1)).push (itK0 b2 l2)).objs.size = s.heap.objs.size + 2 := by rw [Heap.size_push, z1]
  unfold zkH zk4
  rw [z1, z2]
  have z3 : (((s.heap.push (itK0 b1 l1)).push (itK0 b2 l2)).push { cls := .type "tuple", data := .seq #[.ref s.heap.objs.size, .ref (s.heap.objs.size + 1)] }).objs.size = s.heap.objs.size + 3 := by rw [Heap.size_push, z2]
  rw [z3]
  have z4 : ((((s.heap.push (itK0 b1 l1)).push (itK0 b2 l2)).push { cls := .type "tuple", data := .seq #[.ref s.heap.objs.size, .ref (s.heap.objs.size + 1)] }).push { cls := .type "tuple", data := .seq #[.none, .none] }).objs.size = s.heap.objs.size + 4 := by rw [Heap.size_push, z3]
  rw [z4]
  have g5 := n (o := { cls := .type "zip", data := .fields #[.none, .bool false, .bool false, .ref (s.heap.objs.size + 2), .ref (s.heap.objs.size + 3)] }) z4 rfl
  exact ⟨⟨_, g5, rfl⟩, h _ g5 (p (p (n z2 rfl))) (p (n z3 rfl)) (itK0_at (p (p (p (p (n rfl rfl)))))) (itK0_at (p (p (p (n z1 rfl))))) (by rw [Heap.size_push, z4]) fun c o x => p (p (p (p (p x))))⟩
end
/-- a tuple (true) or a list (false), by values -/
def SqB : Bool → PySem.W.Frag → Hp → Addr → List V → Prop
  | true, K, H, a, xs => SqT K H a xs
  | false, K, H, a, xs => SqL K H a xs
section
variable {X : Cx} {pins : List (Addr × Obj)} {σ : L2.St} {H : Hp} {s : Shared} {b b1 b2 : Bool}
theorem sqB_at {a : Addr} {xs : List V} (I : Inv X pins σ H s) (h : SqB b X.K H a xs) : ∃ its, Vals xs its ∧ SqK b s.heap a its.toArray := by
  cases b
  · obtain ⟨its, rv, p, _⟩ := I.list h
    exact ⟨its, rv, p.isList⟩
  · obtain ⟨its, rv, p, _⟩ := I.tuple h
    exact ⟨its, rv, p⟩
theorem sqB_inj {a : Addr} {xs ys : List V} (I : Inv X pins σ H s) (h : SqB b X.K H a xs) (q : SqB b X.K H a ys) : xs = ys := by
  cases b
  · exact I.list_inj h q
  · exact I.tuple_inj h q
/-- both as they stand at each turn, the items in new pairs -/
def ItzK (K : PySem.W.Frag) (b1 b2 : Bool) (a b : Addr) : It where
  go := fun i H => ∃ (xs ys : List V) (x y : V), SqB b1 K H a xs ∧ SqB b2 K H b ys ∧ xs[i]? = some x ∧ ys[i]? = some y
  yld := fun i H v H' => ∃ T x y, v = .ref T ∧ H T = none ∧ H' = upd H T (.tup [x, y]) ∧ (∀ xs, SqB b1 K H a xs → xs[i]? = some x) ∧ ∀ ys, SqB b2 K H b ys → ys[i]? = some y
  stop := fun i H => ∃ xs ys : List V, SqB b1 K H a xs ∧ SqB b2 K H b ys ∧ (xs.length ≤ i ∨ ys.length ≤ i)
theorem five {c z TI TO i1 i2 : Addr} (h : c ∈ [z, TI, TO, i1, i2]) : c = z ∨ c = TI ∨ c = TO ∨ c = i1 ∨ c = i2 := by simpa using h
theorem turn_zipK {P : Program} {w : World} {K : PySem.W.Frag} {elts : List Expr} {kk : Nat} {tpos : Pos} {a b z TI TO i1 i2 : Addr} (D : ZipApart z TI TO i1 i2 a b) :
    Turn P w K (.Tuple elts kk tpos) (ItzK K b1 b2 a b) [z, TI, TO, i1, i2] z (fun i h => IsZip h z TI TO .none ∧ IsPair h TI (.ref i1) (.ref i2) ∧ (∃ x y, IsPair h TO x y) ∧ ItK b1 h i1 a i ∧ ItK b2 h i2 b i) where
  mem := by simp
  obj := fun i h st c hc => by
    obtain ⟨hz, hTI, ⟨x, y, hTO⟩, h1, h2⟩ := st
    obtain ⟨o1, e1, _, d1⟩ := h1.obj
    obtain ⟨o2, e2, _, d2⟩ := h2.obj
    rcases five hc with rfl | rfl | rfl | rfl | rfl
    · exact ⟨_, hz, fun v q => nomatch q⟩
    · exact ⟨_, hTI, fun v q => nomatch q⟩
    · exact ⟨_, hTO, fun v q => nomatch q⟩
    · exact ⟨o1, e1, fun v q => by rw [d1] at q; cases q⟩
    · exact ⟨o2, e2, fun v q => by rw [d2] at q; cases q⟩
  keep := fun i h h' ⟨hz, hTI, ⟨x, y, hTO⟩, h1, h2⟩ k => ⟨k z (by simp) _ hz, k TI (by simp) _ hTI, ⟨x, y, k TO (by simp) _ hTO⟩, h1.mv fun o q => k i1 (by simp) o q, h2.mv fun o q => k i2 (by simp) o q⟩
  item := by
    intro X hP hw hK hc i pins s σ H E I hf st hg
    subst hP hw hK
    obtain ⟨hz, hTI, ⟨x0, y0, hTO⟩, h1, h2⟩ := st
    obtain ⟨xs, ys, x, y, hqx, hqy, hx, hy⟩ := hg
    obtain ⟨its, rv, p⟩ := sqB_at I hqx
    obtain ⟨its2, rv2, p2⟩ := sqB_at I hqy
    obtain ⟨u, hu, ru⟩ := rv.get hx
    obtain ⟨u2, hu2, ru2⟩ := rv2.get hy
    have hzl : z < s.heap.objs.size := Heap.lt_size hz
    have hu : its.toArray[i]? = some u := by simpa using hu
    have hu2 : its2.toArray[i]? = some u2 := by simpa using hu2
    refine zipK_next (I.ok.hd hc) D hz hTI hTO h1 h2 p p2 (fun x' y' ex ey h' z' TO' h1' h2' hT hsz hk => ?_) (fun q => by rw [hu, hu2] at q; rcases q with q | q <;> cases q)
    rw [hu] at ex; cases ex
    rw [hu2] at ey; cases ey
    refine ⟨_, rfl, wpAny_letOwnedTupleGo_zip (s := { s with heap := h' }) z' fun h'' z'' sb => ?_⟩
    have off : ∀ c o, c ∉ [z, TI, TO, i1, i2] → s.heap.get? c = some o → h''.get? c = some o := fun c o n q =>
      (sb.2 c (fun e => n (by simp [e]))).trans (hk c o (fun e => n (by simp [e])) (fun e => n (by simp [e])) (fun e => n (by simp [e])) (fun e => n (by simp [e])) q)
    have new : ObjOk X.prog X.w (upd H s.heap.objs.size (.tup [x, y])) h'' s.heap.objs.size (.tup [x, y]) :=
      ⟨by show 2 ≤ sizeLine; decide, [u, u2], .cons ru (.cons ru2 .nil), ⟨_, (sb.2 _ (Nat.ne_of_gt hzl)).trans hT, rfl, _, rfl⟩⟩
    have I1 : Inv X pins σ (upd H s.heap.objs.size (.tup [x, y])) { s with heap := h'' } := I.turnedNew (t' := s.toks) (ch := [z, TI, TO, i1, i2]) off hf (Nat.le_refl _) new
    refine ⟨.ref s.heap.objs.size, _, I1, rfl, ⟨_, x, y, rfl, I.hok.fresh (Nat.le_refl _), rfl, fun l hl => by rw [sqB_inj I hl hqx]; exact hx, fun l hl => by rw [sqB_inj I hl hqy]; exact hy⟩,
      ⟨z'', (sb.2 _ D.TIz).trans (hk _ _ D.TIz D.TITO D.TIi1 D.TIi2 hTI), ⟨u, u2, (sb.2 _ D.TOz).trans TO'⟩, h1'.mv fun o q => (sb.2 _ D.i1z).trans q, h2'.mv fun o q => (sb.2 _ D.i2z).trans q⟩, fun c hcm => ?_⟩
    have hlt : c < s.heap.objs.size := by
      rcases five hcm with rfl | rfl | rfl | rfl | rfl
      · exact hzl
      · exact Heap.lt_size hTI
      · exact Heap.lt_size hTO
      · exact h1.lt
      · exact h2.lt
    rw [upd_ne (Nat.ne_of_lt hlt)]
    exact (hf c hcm).1
  done := by
    intro X hP hw hK hc i pins s σ H E I hf st hg
    subst hP hw hK
    obtain ⟨hz, hTI, ⟨x0, y0, hTO⟩, h1, h2⟩ := st
    obtain ⟨xs, ys, hqx, hqy, hend⟩ := hg
    obtain ⟨its, rv, p⟩ := sqB_at I hqx
    obtain ⟨its2, rv2, p2⟩ := sqB_at I hqy
    have l1 := rv.length
    have l2 := rv2.length
    refine zipK_next (I.ok.hd hc) D hz hTI hTO h1 h2 p p2 (fun x y ex ey => ?_) (fun _ h' hk => ⟨rfl, I.turnedL (t' := s.toks) (ch := [z, TI, TO, i1, i2]) (fun c o n q =>
      hk c o (fun e => n (by simp [e])) (fun e => n (by simp [e])) (fun e => n (by simp [e])) (fun e => n (by simp [e])) q) hf⟩)
    have a1 := (List.getElem?_eq_some_iff.mp (show its[i]? = some x by simpa using ex)).1
    have a2 := (List.getElem?_eq_some_iff.mp (show its2[i]? = some y by simpa using ey)).1
    omega
  self := fun A i s Q E st h => wpAny_pyIter_zip st.1 h
def iZipK (K : PySem.W.Frag) (ta : TA) : TI := fun σ H R => ta σ H fun vs H1 => ∃ (b1 b2 : Bool) (a b : Addr) (xs ys : List V), vs = [.ref a, .ref b] ∧ SqB b1 K H1 a xs ∧ SqB b2 K H1 b ys ∧ R (ItzK K b1 b2 a b) H1
theorem pi_zipK {e e2 : Expr} {ta : TA} {p pos tpos : Pos} {elts : List Expr} {kk : Nat} (hg : Gl X "zip") (hm : X.mg "zip" = none) (ha : PA X [e, e2] ta)
    (hs : starEach [e, e2] X.env = (false, eval e X.env) :: starEach [e2] X.env) (hpl : (backTo pos (starEach [e2] X.env)).any (·.1) = false) :
    PI X (.Tuple elts kk tpos) (.Call (.Name "zip" p) [e, e2] [] pos) (iZipK X.K ta) := by
  refine ⟨fun pins s σ H R I h => ?_⟩
  refine Call_ (ld_blt I hg hm PyProof.Rows.boot_zip (PyProof.Rows.callWith_type1 (thn (ha.run pos pins s σ H _ I h) fun us s1 ⟨vs, H1, I1, r1, b1, b2, a, b, xs, ys, ex, hqx, hqy, q⟩ => ?_) hs hpl))
  subst ex
  cases r1 with
  | cons r rr =>
    cases rr with
    | cons r' rr =>
      cases rr
      cases r
      cases r'
      obtain ⟨its, rv, p1⟩ := sqB_at I1 hqx
      obtain ⟨its2, rv2, p2⟩ := sqB_at I1 hqy
      refine callZipK p1 p2 fun h' hz hTI hTO h1 h2 hsz hk => wpAny_pyIter_zip hz ?_
      have I2 : Inv X pins σ H1 { s1 with heap := h' } := I1.kept (t' := s1.toks) hk
      refine ⟨s1.heap.objs.size + 4, [s1.heap.objs.size + 4, s1.heap.objs.size + 2, s1.heap.objs.size + 3, s1.heap.objs.size, s1.heap.objs.size + 1], _, _, H1, rfl, I2, turn_zipK (PySem.W.ktu_apart s1.heap.objs.size a b p1.lt p2.lt), ⟨hz, hTI, ⟨_, _, hTO⟩, h1, h2⟩, fun c hc => ?_, q⟩
      have hle : s1.heap.objs.size ≤ c := by
        rcases five hc with rfl | rfl | rfl | rfl | rfl
        · exact Nat.le_add_right _ _
        · exact Nat.le_add_right _ _
        · exact Nat.le_add_right _ _
        · exact Nat.le_refl _
        · exact Nat.le_add_right _ _
      exact I1.fpOk hle (I1.hok.fresh hle)
end
section
variable {X : Cx} {K : PySem.W.Frag} {B H : Hp} {μ : Mu} {h : CH}
theorem walk_sq {r : CR} {x : V} {xs : List CV} (rel : Rel K μ h H) (a : RR K B H μ r x) (e : sqOf r h = some xs) : ∃ b p vs0, x = .ref p ∧ SqB b K H p vs0 ∧
    ∀ μ2 h2 H2, ExtT B H μ H2 μ2 → Rel K μ2 h2 H2 → gdOf r h h2 → ∃ vs, SqB b K H2 p vs ∧ RVs K H2 μ2 xs vs := by
  rcases sqOf_or e with ⟨et, _⟩ | ⟨_, el⟩
  · obtain ⟨p, vs, rfl, sq, _, wk⟩ := walk_tp (B := B) a.rx et
    exact ⟨true, p, vs, rfl, sq, fun μ2 h2 H2 e2 _ _ => ⟨vs, wk μ2 H2 e2⟩⟩
  · obtain ⟨p, rfl, ⟨vs, sq⟩, wk⟩ := walk_ls rel a el
    exact ⟨false, p, vs, rfl, sq, fun μ2 h2 H2 e2 rel2 g => let ⟨vs, q, _, rv⟩ := wk μ2 h2 H2 e2 rel2 g; ⟨vs, q, rv⟩⟩
theorem i_zip {a b : Expr} {p pos tpos : Pos} {elts : List Expr} {kk : Nat} {ia ib : CE} (hg : Gl X "zip") (hm : X.mg "zip" = none) (ha : PE X a (tE X.K (wE ia))) (hb : PE X b (tE X.K (wE ib))) (hst : stars [a, b] = false) :
    PI X (.Tuple elts kk tpos) (.Call (.Name "zip" p) [a, b] [] pos) (tI X.K (wI (.zip ia ib))) := by
  obtain ⟨s1, s2⟩ := stars_cons hst
  obtain ⟨s3, _⟩ := stars_cons s2
  refine PI.imp (pi_zipK hg hm (pa_cons ha (pa_cons hb pa_nil (starEach_cons s3)) (starEach_cons s1)) (starEach_cons s1) (plain_of s2)) fun σ H R ⟨c, h, μ, k, E, rs, rel, w, hE, ps⟩ => ?_
  refine ⟨c, h, μ, _, E, rs, rel, w, hE, fun r1 h1 w1 μ1 H1 x e1 rel1 rr1 => ?_⟩
  refine ⟨c, h1, μ1, _, E, rs.ext e1, rel1, w1, hE, fun r2 h2 w2 μ2 H2 y e2 rel2 rr2 => ?_⟩
  obtain ⟨xs, eq1, w2⟩ := oP_of w2
  obtain ⟨ys, eq2, w2⟩ := oP_of w2
  obtain ⟨b1, p1, vs0, rfl, sq1, wk1⟩ := walk_sq rel2 (rr1.on e2) eq1
  obtain ⟨b2, p2, us0, rfl, sq2, wk2⟩ := walk_sq rel2 (rr2.back e1 rel1) eq2
  refine ⟨b1, b2, p1, p2, vs0, us0, rfl, sq1, sq2, ps _ _ _ w2 μ2 H2 _ (e1.trans e2) rel2 fun μ3 h3 H3 e3 rel3 g3 => ?_⟩
  obtain ⟨vs, q1, rv1⟩ := wk1 μ3 h3 H3 e3 rel3 g3.1
  obtain ⟨us, q2, rv2⟩ := wk2 μ3 h3 H3 e3 rel3 g3.2
  have l1 := rv1.length
  have l2 := rv2.length
  rw [List.length_zipWith]
  refine ⟨fun i hi => ⟨vs, us, vs[i]'(by omega), us[i]'(by omega), q1, q2, List.getElem?_eq_getElem _, List.getElem?_eq_getElem _⟩, ⟨vs, us, q1, q2, by omega⟩, fun i x H' hi y => ?_⟩
  obtain ⟨T, u, v, rfl, n, rfl, y1, y2⟩ := y
  obtain ⟨u', a1, a2⟩ := rv1.get (i := i) (x := xs[i]'(by omega)) (List.getElem?_eq_getElem _)
  obtain ⟨v', c1, c2⟩ := rv2.get (i := i) (x := ys[i]'(by omega)) (List.getElem?_eq_getElem _)
  have z1 := y1 vs q1
  have z2 := y2 us q2
  rw [a1] at z1; cases z1
  rw [c1] at z2; cases z2
  obtain ⟨w1, w2, w3⟩ := yld_pair rel3 n a2 c2
  exact ⟨w1, w2, _, zip_get (List.getElem?_eq_getElem _) (List.getElem?_eq_getElem _), w3⟩
end
end G

/-! enumerate of a zip of two, each a list or a tuple -/
namespace G
open PySem PySem.Spec PyProof.Rows L2
/-- a zip as it may stand while another walks it: whether its last pair is known to be out or not -/
def zipO (TI TO : Addr) (f0 f1 : Value) : Obj := { cls := .type "zip", dict := none, data := .fields #[f0, f1, .bool false, .ref TI, .ref TO], slots := #[] }
def ZipAt (h : Heap) (z TI TO : Addr) : Prop := ∃ (f0 : Value) (b : Bool), (f0 = .none ∨ ∃ T : Addr, f0 = rawInt T) ∧ h.get? z = some (zipO TI TO f0 (.bool b))
section
variable {prog : Program} {w : World} {A : Around} {E : Value → Shared → Prop} {s : Shared} {b1 b2 : Bool}
theorem ZipAt.mv {h h' : Heap} {z TI TO : Addr} (q : ZipAt h z TI TO) (k : ∀ o, h.get? z = some o → h'.get? z = some o) : ZipAt h' z TI TO := by
  obtain ⟨f0, b, a, e⟩ := q
  exact ⟨f0, b, a, k _ e⟩
theorem ZipAt.lt {h : Heap} {z TI TO : Addr} (q : ZipAt h z TI TO) : z < h.objs.size := by
  obtain ⟨f0, b, a, e⟩ := q
  exact Heap.lt_size e
/-- is its own pair free? either answer serves -/
theorem zip_free {z TI TO : Addr} {Q : Bool → Shared → Prop} (hz : ZipAt s.heap z TI TO) (h1 : Q true s) (h2 : ∀ h', ZipAt h' z TI TO → Heap.SameBut z s.heap h' → Q false { s with heap := h' }) :
    wpAny (model prog w) A (Builtin.SmallTypes.ownedTupleIsFree (.ref z)) Q E s := by
  obtain ⟨f0, b, hf, hg⟩ := hz
  unfold Builtin.SmallTypes.ownedTupleIsFree
  rcases hf with rfl | ⟨T, rfl⟩
  · exact wpAny_bind (wpAny_field hg rfl (x := .none) rfl (wpAny_pure h1))
  · refine wpAny_bind (wpAny_field hg rfl (x := rawInt T) rfl ?_)
    show wpAny _ _ (loadIfAlive ((T : Int).toNat) >>= _) _ _ _
    rw [Int.toNat_natCast]
    have alive : ∀ {R : Option Obj → Shared → Prop}, R (s.heap.get? T) s → wpAny (model prog w) A (loadIfAlive T) R E s := fun {R} q _ _ _ => q
    refine wpAny_bind (alive ?_)
    cases e : s.heap.get? T with
    | none =>
      simp only [Option.isNone_none, if_true]
      exact wpAny_pure h1
    | some o =>
      simp only [Option.isNone_some, Bool.false_eq_true, if_false]
      refine wpAny_bind (wpAny_field hg rfl (x := .bool b) rfl ?_)
      cases b with
      | true =>
        rw [if_neg (show ¬ ((Value.bool true != Value.bool true) = true) from Bool.false_ne_true)]
        exact wpAny_pure (h2 s.heap ⟨_, true, .inr ⟨T, rfl⟩, hg⟩ (Heap.SameBut.refl _ _))
      | false =>
        rw [if_pos (show (Value.bool false != Value.bool true) = true from rfl)]
        exact wpAny_bind (wpAny_setField_rec hg (by simp) fun h₁ hz₁ hs₁ => wpAny_pure (h2 h₁ ⟨_, true, .inr ⟨T, rfl⟩, hz₁⟩ hs₁))
/-- one pair is drawn, on either way -/
theorem zipZ_draw {z TI TO i1 i2 l1 l2 : Addr} {k1 k2 : Nat} {xs ys : Array Value} {x y u v : Value} {Q : Value → Shared → Prop} (D : ZipApart z TI TO i1 i2 l1 l2)
    (hz : ZipAt s.heap z TI TO) (hTI : IsPair s.heap TI (.ref i1) (.ref i2)) (hTO : IsPair s.heap TO u v) (h1 : ItK b1 s.heap i1 l1 k1) (h2 : ItK b2 s.heap i2 l2 k2) (hl1 : SqK b1 s.heap l1 xs) (hl2 : SqK b2 s.heap l2 ys)
    (hx : xs[k1]? = some x) (hy : ys[k2]? = some y)
    (hQ : ∀ h', ZipAt h' z TI TO → (∃ u v, IsPair h' TO u v) → ItK b1 h' i1 l1 (k1 + 1) → ItK b2 h' i2 l2 (k2 + 1) → IsPair h' s.heap.objs.size x y → h'.objs.size = s.heap.objs.size + 1 →
      (∀ c o, c ≠ z → c ≠ TO → c ≠ i1 → c ≠ i2 → s.heap.get? c = some o → h'.get? c = some o) → Q (.ref s.heap.objs.size) { s with heap := h' }) :
    wpAny (model prog w) A (Builtin.«zip.__next__» ⟨[.ref z], []⟩) (fun fin s' => ∃ v, fin = .done (.ret v) ∧ Q v s') E s := by
  obtain ⟨f0, bb, hf, hg⟩ := id hz
  refine wpAny_bind (m := field (.ref z) 2) (wpAny_field hg rfl (x := .bool false) rfl (wpAny_bind (m := field (.ref z) 3) (wpAny_field hg rfl (x := .ref TI) rfl (wpAny_bind (wpAny_seqItems hTI rfl ?_)))))
  refine wpAny_bind (m := Builtin.SmallTypes.ownedTupleIsFree (.ref z)) (zip_free hz ?_ fun hA zA sA => ?_)
  · rw [if_pos rfl]
    refine wpAny_bind (wpAny_rule (wpAny_bind (wpAny_field hg rfl (x := .ref TO) rfl (wpAny_bind (wpAny_setField_rec hg (by simp) fun ha za sa => ?_)))))
    have za : ha.get? z = some (zipO TI TO .ellipsis (.bool bb)) := za
    refine wpAny_bind ?_
    simp only [List.zipIdx_cons, List.zipIdx_nil, List.forIn_cons, List.forIn_nil]
    have ka : ∀ c o, c ≠ z → s.heap.get? c = some o → ha.get? c = some o := fun c o n q => sa.extBut _ _ n q
    refine wpAny_bind (wpAny_bind (wpAny_onRaise (wpAny_bind (m := Builtin.SmallTypes.nextOf (.ref i1)) (nextK (h1.mv (ka _ · D.i1z)) (hl1.mv (ka _ · D.l1z)) hx fun hb hb1 sb => wpAny_pure ?_))))
    have kb : ∀ c o, c ≠ z → c ≠ i1 → s.heap.get? c = some o → hb.get? c = some o := fun c o n m q => sb.extBut _ _ m (ka c o n q)
    refine wpAny_bind (wpAny_seqItems (kb _ _ D.TOz D.TOi1 hTO) rfl (wpAny_bind (wpAny_updateSeq_pair (kb _ _ D.TOz D.TOi1 hTO) fun hc hcT sc => wpAny_bind (wpAny_letGo (wpAny_pure ?_)))))
    have hcT : IsPair hc TO x v := hcT
    have kc : ∀ c o, c ≠ z → c ≠ i1 → c ≠ TO → s.heap.get? c = some o → hc.get? c = some o := fun c o n m t q => sc.extBut _ _ t (kb c o n m q)
    refine wpAny_bind (wpAny_bind (wpAny_onRaise (wpAny_bind (m := Builtin.SmallTypes.nextOf (.ref i2)) (nextK (h2.mv (kc _ · D.i2z D.i12.symm D.TOi2.symm)) (hl2.mv (kc _ · D.l2z D.l2i1 D.l2TO)) hy fun hd hd2 sd => wpAny_pure ?_))))
    have hdT : IsPair hd TO x v := sd.extBut _ _ D.TOi2 hcT
    refine wpAny_bind (wpAny_seqItems hdT rfl (wpAny_bind (wpAny_updateSeq_pair hdT fun he heT se => wpAny_bind (wpAny_letGo (wpAny_pure (wpAny_pure ?_))))))
    have heT : IsPair he TO x y := heT
    have ke : ∀ c o, c ≠ z → c ≠ i1 → c ≠ TO → c ≠ i2 → s.heap.get? c = some o → he.get? c = some o := fun c o n m t r q => se.extBut _ _ t (sd.extBut _ _ r (kc c o n m t q))
    have hsz : he.objs.size = s.heap.objs.size := by rw [se.1, sd.1, sc.1, sb.1, sa.1]
    have ze : he.get? z = some (zipO TI TO .ellipsis (.bool bb)) := se.extBut _ _ D.TOz.symm (sd.extBut _ _ D.i2z.symm (sc.extBut _ _ D.TOz.symm (sb.extBut _ _ D.i1z.symm za)))
    have e1 : ItK b1 he i1 l1 (k1 + 1) := hb1.mv fun o q => se.extBut _ _ D.TOi1.symm (sd.extBut _ _ D.i12 (sc.extBut _ _ D.TOi1.symm q))
    have e2 : ItK b2 he i2 l2 (k2 + 1) := hd2.mv fun o q => se.extBut _ _ D.TOi2.symm q
    refine wpAny_bind (wpAny_seqItems heT rfl (wpAny_bind (wpAny_newTuple (wpAny_bind (m := Builtin.SmallTypes.ownedTupleHandOut (.ref z) (.ref he.objs.size)) ?_))))
    unfold Builtin.SmallTypes.ownedTupleHandOut
    have zf : (he.push { cls := .type "tuple", data := .seq #[x, y] }).get? z = some (zipO TI TO .ellipsis (.bool bb)) := Heap.get?_push_of_some _ ze
    refine wpAny_bind (wpAny_setField_rec zf (by simp) fun hg' zg sg => wpAny_setField_rec (show hg'.get? z = some (zipO TI TO (rawInt he.objs.size) (.bool bb)) from zg) (by simp) fun hi zi si => wpAny_pure ⟨_, rfl, ?_⟩)
    have zi : hi.get? z = some (zipO TI TO (rawInt he.objs.size) (.bool false)) := zi
    have up : ∀ c o, c ≠ z → (he.push { cls := .type "tuple", data := .seq #[x, y] }).get? c = some o → hi.get? c = some o := fun c o n q => si.extBut _ _ n (sg.extBut _ _ n q)
    have nz : he.objs.size ≠ z := Nat.ne_of_gt (Heap.lt_size ze)
    have hT : IsPair hi he.objs.size x y := up _ _ nz (Heap.get?_push_size _ rfl)
    have hn : hi.objs.size = he.objs.size + 1 := by rw [si.1, sg.1, Heap.size_push]
    have up2 : ∀ c o, c ≠ z → he.get? c = some o → hi.get? c = some o := fun c o n q => up c o n (Heap.get?_push_of_some _ q)
    rw [hsz] at zi hT hn
    show Q (.ref he.objs.size) _
    rw [hsz]
    exact hQ hi ⟨_, false, .inr ⟨_, rfl⟩, zi⟩ ⟨_, _, up2 _ _ D.TOz heT⟩ (e1.mv fun o q => up2 _ o D.i1z q) (e2.mv fun o q => up2 _ o D.i2z q) hT hn fun c o c1 c2 c3 c4 e => up2 c o c1 (ke c o c1 c3 c2 c4 e)
  · simp only [Bool.false_eq_true, if_false]
    refine wpAny_bind ?_
    rw [← Array.forIn_toList]
    simp only [List.forIn_cons, List.forIn_nil]
    have ka : ∀ c o, c ≠ z → s.heap.get? c = some o → hA.get? c = some o := fun c o n q => sA.extBut _ _ n q
    refine wpAny_bind (wpAny_bind (wpAny_holding ?_))
    refine wpAny_bind (m := Builtin.SmallTypes.nextOf (.ref i1)) (nextK (h1.mv (ka _ · D.i1z)) (hl1.mv (ka _ · D.l1z)) hx fun hb hb1 sb => wpAny_pure (wpAny_pure ?_))
    have kb : ∀ c o, c ≠ z → c ≠ i1 → s.heap.get? c = some o → hb.get? c = some o := fun c o n m q => sb.extBut _ _ m (ka c o n q)
    refine wpAny_bind (wpAny_bind (wpAny_holding ?_))
    refine wpAny_bind (m := Builtin.SmallTypes.nextOf (.ref i2)) (nextK (h2.mv (kb _ · D.i2z D.i12.symm)) (hl2.mv (kb _ · D.l2z D.l2i1)) hy fun hd hd2 sd => wpAny_pure (wpAny_pure (wpAny_pure ?_)))
    have kd : ∀ c o, c ≠ z → c ≠ i1 → c ≠ i2 → s.heap.get? c = some o → hd.get? c = some o := fun c o n m r q => sd.extBut _ _ r (kb c o n m q)
    have hsz : hd.objs.size = s.heap.objs.size := by rw [sd.1, sb.1, sA.1]
    have zd : ZipAt hd z TI TO := zA.mv fun o q => sd.extBut _ _ D.i2z.symm (sb.extBut _ _ D.i1z.symm q)
    show wpAny _ _ (newTuple [x, y] >>= _) _ _ _
    refine wpAny_bind (wpAny_newTuple (wpAny_pure ⟨_, rfl, ?_⟩))
    show Q (.ref hd.objs.size) _
    have hT : IsPair (hd.push { cls := .type "tuple", data := .seq #[x, y] }) hd.objs.size x y := Heap.get?_push_size _ rfl
    have hn : (hd.push { cls := .type "tuple", data := .seq #[x, y] }).objs.size = hd.objs.size + 1 := Heap.size_push ..
    rw [hsz] at hT hn ⊢
    exact hQ _ (zd.mv fun o q => Heap.get?_push_of_some _ q) ⟨_, _, Heap.get?_push_of_some _ (kd _ _ D.TOz D.TOi1 D.TOi2 hTO)⟩ (hb1.mv fun o q => Heap.get?_push_of_some _ (sd.extBut _ _ D.i12 q)) (hd2.mv fun o q => Heap.get?_push_of_some _ q) hT hn
      fun c o c1 _ c3 c4 q => Heap.get?_push_of_some _ (kd c o c1 c3 c4 q)
theorem zipZ_stop {z TI TO i1 i2 l1 l2 : Addr} {k1 k2 : Nat} {xs ys : Array Value} {u v : Value} {Q : Fin → Shared → Prop} (hh : A.handled = none) (D : ZipApart z TI TO i1 i2 l1 l2)
    (hz : ZipAt s.heap z TI TO) (hTI : IsPair s.heap TI (.ref i1) (.ref i2)) (hTO : IsPair s.heap TO u v) (h1 : ItK b1 s.heap i1 l1 k1) (h2 : ItK b2 s.heap i2 l2 k2) (hl1 : SqK b1 s.heap l1 xs) (hl2 : SqK b2 s.heap l2 ys)
    (hend : xs[k1]? = none ∨ ys[k2]? = none)
    (hE : ∀ h' e, (∀ c o, c ≠ z → c ≠ TO → c ≠ i1 → c ≠ i2 → s.heap.get? c = some o → h'.get? c = some o) → (∃ o, h'.get? e = some o ∧ o.cls = .type "StopIteration") → E (.ref e) { s with heap := h' }) :
    wpAny (model prog w) A (Builtin.«zip.__next__» ⟨[.ref z], []⟩) Q E s := by
  obtain ⟨f0, bb, hf, hg⟩ := id hz
  refine wpAny_bind (m := field (.ref z) 2) (wpAny_field hg rfl (x := .bool false) rfl (wpAny_bind (m := field (.ref z) 3) (wpAny_field hg rfl (x := .ref TI) rfl (wpAny_bind (wpAny_seqItems hTI rfl ?_)))))
  refine wpAny_bind (m := Builtin.SmallTypes.ownedTupleIsFree (.ref z)) (zip_free hz ?_ fun hA zA sA => ?_)
  · rw [if_pos rfl]
    refine wpAny_bind (wpAny_rule (wpAny_bind (wpAny_field hg rfl (x := .ref TO) rfl (wpAny_bind (wpAny_setField_rec hg (by simp) fun ha za sa => ?_)))))
    have za : ha.get? z = some (zipO TI TO .ellipsis (.bool bb)) := za
    refine wpAny_bind ?_
    simp only [List.zipIdx_cons, List.zipIdx_nil, List.forIn_cons, List.forIn_nil]
    have ka : ∀ c o, c ≠ z → s.heap.get? c = some o → ha.get? c = some o := fun c o n q => sa.extBut _ _ n q
    cases hx : xs[k1]? with
    | none =>
      refine wpAny_bind (wpAny_bind (wpAny_onRaise (wpAny_bind (m := Builtin.SmallTypes.nextOf (.ref i1)) (nextK_end hh (h1.mv (ka _ · D.i1z)) (hl1.mv (ka _ · D.l1z)) hx fun hb e sb ⟨oe, ee, ce⟩ => ?_))))
      have zb : hb.get? z = some (zipO TI TO .ellipsis (.bool bb)) := sb _ _ D.i1z.symm za
      have ne : e ≠ z := fun q => by subst q; rw [zb] at ee; cases ee; simp [zipO] at ce
      exact wpAny_setField_rec zb (by simp) fun hc _ sc => hE hc e (fun c o c1 _ c3 _ q => sc.extBut _ _ c1 (sb _ _ c3 (ka c o c1 q))) ⟨oe, sc.extBut _ _ ne ee, ce⟩
    | some x =>
      have hy : ys[k2]? = none := hend.resolve_left (by rw [hx]; simp)
      refine wpAny_bind (wpAny_bind (wpAny_onRaise (wpAny_bind (m := Builtin.SmallTypes.nextOf (.ref i1)) (nextK (h1.mv (ka _ · D.i1z)) (hl1.mv (ka _ · D.l1z)) hx fun hb hb1 sb => wpAny_pure ?_))))
      have kb : ∀ c o, c ≠ z → c ≠ i1 → s.heap.get? c = some o → hb.get? c = some o := fun c o n m q => sb.extBut _ _ m (ka c o n q)
      refine wpAny_bind (wpAny_seqItems (kb _ _ D.TOz D.TOi1 hTO) rfl (wpAny_bind (wpAny_updateSeq_pair (kb _ _ D.TOz D.TOi1 hTO) fun hc hcT sc => wpAny_bind (wpAny_letGo (wpAny_pure ?_)))))
      have kc : ∀ c o, c ≠ z → c ≠ i1 → c ≠ TO → s.heap.get? c = some o → hc.get? c = some o := fun c o n m t q => sc.extBut _ _ t (kb c o n m q)
      refine wpAny_bind (wpAny_bind (wpAny_onRaise (wpAny_bind (m := Builtin.SmallTypes.nextOf (.ref i2)) (nextK_end hh (h2.mv (kc _ · D.i2z D.i12.symm D.TOi2.symm)) (hl2.mv (kc _ · D.l2z D.l2i1 D.l2TO)) hy fun hd e sd ⟨oe, ee, ce⟩ => ?_))))
      have zd : hd.get? z = some (zipO TI TO .ellipsis (.bool bb)) := sd _ _ D.i2z.symm (sc.extBut _ _ D.TOz.symm (sb.extBut _ _ D.i1z.symm za))
      have ne : e ≠ z := fun q => by subst q; rw [zd] at ee; cases ee; simp [zipO] at ce
      exact wpAny_setField_rec zd (by simp) fun hf _ sf => hE hf e (fun c o c1 c2 c3 c4 q => sf.extBut _ _ c1 (sd _ _ c4 (kc c o c1 c3 c2 q))) ⟨oe, sf.extBut _ _ ne ee, ce⟩
  · simp only [Bool.false_eq_true, if_false]
    refine wpAny_bind ?_
    rw [← Array.forIn_toList]
    simp only [List.forIn_cons, List.forIn_nil]
    have ka : ∀ c o, c ≠ z → s.heap.get? c = some o → hA.get? c = some o := fun c o n q => sA.extBut _ _ n q
    refine wpAny_bind (wpAny_bind (wpAny_holding ?_))
    cases hx : xs[k1]? with
    | none =>
      refine wpAny_bind (m := Builtin.SmallTypes.nextOf (.ref i1)) (nextK_end hh (h1.mv (ka _ · D.i1z)) (hl1.mv (ka _ · D.l1z)) hx fun hb e sb he => ?_)
      exact hE hb e (fun c o c1 _ c3 _ q => sb _ _ c3 (ka c o c1 q)) he
    | some x =>
      have hy : ys[k2]? = none := hend.resolve_left (by rw [hx]; simp)
      refine wpAny_bind (m := Builtin.SmallTypes.nextOf (.ref i1)) (nextK (h1.mv (ka _ · D.i1z)) (hl1.mv (ka _ · D.l1z)) hx fun hb hb1 sb => wpAny_pure (wpAny_pure ?_))
      have kb : ∀ c o, c ≠ z → c ≠ i1 → s.heap.get? c = some o → hb.get? c = some o := fun c o n m q => sb.extBut _ _ m (ka c o n q)
      refine wpAny_bind (wpAny_bind (wpAny_holding ?_))
      refine wpAny_bind (m := Builtin.SmallTypes.nextOf (.ref i2)) (nextK_end hh (h2.mv (kb _ · D.i2z D.i12.symm)) (hl2.mv (kb _ · D.l2z D.l2i1)) hy fun hd e sd he => ?_)
      exact hE hd e (fun c o c1 _ c3 c4 q => sd _ _ c4 (kb c o c1 c3 q)) he
/-- an enumerate's turn over whatever its own iterator draws -/
theorem enumA_item {e it : Addr} {i : Int} {old : Value} {P : Value → Heap → Prop} {Q : Value → Shared → Prop} (he : IsEnum s.heap e it i old)
    (hd : ∀ {Q' : Value → Shared → Prop}, (∀ x h', P x h' → Q' x { s with heap := h' }) → wpAny (model prog w) A (Builtin.SmallTypes.nextOf (.ref it)) Q' E s)
    (hP : ∀ x h', P x h' → h'.get? e = s.heap.get? e)
    (hQ : ∀ x h1 h' tk, P x h1 → IsEnumOut h' e it (i + 1) x h1.objs.size → h'.get? h1.objs.size = some { cls := .type "tuple", data := .seq #[.int i tk, x] } → h'.objs.size = h1.objs.size + 1 →
      (∀ b o, b ≠ e → h1.get? b = some o → h'.get? b = some o) → Q (.ref h1.objs.size) { s with heap := h', toks := tk + 1 }) :
    wpAny (model prog w) A (Builtin.«enumerate.__next__» ⟨[.ref e], []⟩) (fun fin s' => ∃ v, fin = .done (.ret v) ∧ Q v s') E s := by
  obtain ⟨hp, g, d, tk, os⟩ := s
  refine wpAny_bind (m := field (.ref e) 2) (wpAny_field he rfl (x := .ref it) rfl (wpAny_bind (m := Builtin.SmallTypes.nextOf (.ref it)) (hd fun x h₁ hp1 => ?_)))
  have he₁ : IsEnum h₁ e it i old := (hP _ _ hp1).trans he
  refine wpAny_bind (m := field (.ref e) 3) (wpAny_field he₁ rfl (x := rawInt i) rfl (wpAny_bind (m := field (.ref e) 4) (wpAny_field he₁ rfl (x := .none) rfl ?_)))
  refine wpAny_bind (m := mkInt i) (wpAny_mkInt ?_)
  refine wpAny_bind (m := setField (.ref e) 3 (rawInt (i + 1))) (wpAny_setField_rec he₁ (by simp) fun h₂ he₂ hs₂ => ?_)
  replace he₂ : IsEnum h₂ e it (i + 1) old := he₂
  refine wpAny_bind (m := setField (.ref e) 4 .none) (wpAny_setField_rec he₂ (by simp) fun h₃ he₃ hs₃ => ?_)
  replace he₃ : IsEnum h₃ e it (i + 1) old := he₃
  refine wpAny_bind (m := newTuple [.int i tk, x]) (wpAny_newTuple ?_)
  have he₄ : IsEnum (h₃.push { cls := .type "tuple", data := .seq #[.int i tk, x] }) e it (i + 1) old := Heap.get?_push_of_some _ he₃
  have hsz : h₃.objs.size = h₁.objs.size := by rw [hs₃.1, hs₂.1]
  have ht₄ : (h₃.push { cls := .type "tuple", data := .seq #[.int i tk, x] }).get? h₁.objs.size = some { cls := .type "tuple", data := .seq #[.int i tk, x] } := by rw [← hsz]; exact Heap.get?_push_size _ rfl
  have hz₄ : (h₃.push { cls := .type "tuple", data := .seq #[.int i tk, x] }).objs.size = h₁.objs.size + 1 := by rw [Heap.size_push, hsz]
  have hk₄ : ∀ b o, b ≠ e → h₁.get? b = some o → (h₃.push { cls := .type "tuple", data := .seq #[.int i tk, x] }).get? b = some o := fun b o hbe hb => Heap.get?_push_of_some _ (hs₃.extBut b o hbe (hs₂.extBut b o hbe hb))
  have hel : e < h₁.objs.size := Heap.lt_size he₁
  generalize h₃.push { cls := .type "tuple", data := .seq #[.int i tk, x] } = h₄ at he₄ ht₄ hz₄ hk₄
  show wpAny _ _ (Builtin.SmallTypes.ownedTupleIsFree (.ref e) >>= _) _ _ ⟨h₄, g, d, tk + 1, os⟩
  rw [hsz]
  refine wpAny_bind ?_
  unfold Builtin.SmallTypes.ownedTupleIsFree
  refine wpAny_bind (wpAny_field he₄ rfl (x := .none) rfl (wpAny_pure ?_))
  simp only [if_true]
  refine wpAny_bind (wpAny_rule (wpAny_bind (wpAny_field he₄ rfl (x := old) rfl (wpAny_bind (wpAny_setField_rec he₄ (by simp) fun h₅ he₅ hs₅ => ?_)))))
  replace he₅ : IsEnum h₅ e it (i + 1) x := he₅
  refine wpAny_bind (m := Builtin.SmallTypes.ownedTupleHandOut (.ref e) (.ref h₁.objs.size)) ?_
  unfold Builtin.SmallTypes.ownedTupleHandOut
  refine wpAny_bind (wpAny_setField_rec he₅ (by simp) fun h₆ he₆ hs₆ => ?_)
  replace he₆ : IsEnumOut h₆ e it (i + 1) x h₁.objs.size := he₆
  refine wpAny_setField_rec he₆ (by simp) fun h₇ he₇ hs₇ => ?_
  replace he₇ : IsEnumOut h₇ e it (i + 1) x h₁.objs.size := he₇
  have k7 : ∀ b o, b ≠ e → h₄.get? b = some o → h₇.get? b = some o := fun b o hbe hb => hs₇.extBut b o hbe (hs₆.extBut b o hbe (hs₅.extBut b o hbe hb))
  exact wpAny_bind (wpAny_letGo (wpAny_pure ⟨_, rfl, hQ x h₁ h₇ tk hp1 he₇ (k7 _ _ (Nat.ne_of_gt hel) ht₄) (by rw [hs₇.1, hs₆.1, hs₅.1, hz₄]) fun b o hbe hb => k7 b o hbe (hk₄ b o hbe hb)⟩))
theorem enumA_next {e it : Addr} {i : Int} {old : Value} {P : Value → Heap → Prop} {Q : Option Value → Shared → Prop} (he : IsEnum s.heap e it i old)
    (hd : ∀ {Q' : Value → Shared → Prop} {E : Value → Shared → Prop}, (∀ x h', P x h' → Q' x { s with heap := h' }) → wpAny (model prog w) A.in1 (Builtin.SmallTypes.nextOf (.ref it)) Q' E s)
    (hP : ∀ x h', P x h' → h'.get? e = s.heap.get? e)
    (hQ : ∀ x h1 h' tk, P x h1 → IsEnumOut h' e it (i + 1) x h1.objs.size → h'.get? h1.objs.size = some { cls := .type "tuple", data := .seq #[.int i tk, x] } → h'.objs.size = h1.objs.size + 1 →
      (∀ b o, b ≠ e → h1.get? b = some o → h'.get? b = some o) → Q (some (.ref h1.objs.size)) { s with heap := h', toks := tk + 1 }) : wpAny (model prog w) A (pyNext (.ref e)) Q E s := by
  have hT : s.TypeIs (.ref e) "enumerate" := ⟨_, he, rfl⟩
  unfold pyNext
  exact wpAny_bind (wpAny_attempt (wpAny_callSpecial?_slot (name := Str.ofString "__next__") hT F.slot_enumerate_next
    (wpAny_call_entry F.slot_enumerate_next hT F.entry_enumerate_next (enumA_item he (fun q => hd q) hP fun x h1 h' tk a b c d k => wpAny_pure (hQ x h1 h' tk a b c d k)) (F.args_enumerate_next_1 _))))
theorem enumA_end {e it : Addr} {i : Int} {old : Value} {P : Heap → Prop} {Q : Option Value → Shared → Prop} (he : IsEnum s.heap e it i old)
    (hd : ∀ {Q' : Value → Shared → Prop} {E : Value → Shared → Prop}, (∀ h' x, P h' → (∃ o, h'.get? x = some o ∧ o.cls = .type "StopIteration") → E (.ref x) { s with heap := h' }) → wpAny (model prog w) A.in1 (Builtin.SmallTypes.nextOf (.ref it)) Q' E s)
    (hQ : ∀ h', P h' → Q none { s with heap := h' }) : wpAny (model prog w) A (pyNext (.ref e)) Q E s := by
  have hT : s.TypeIs (.ref e) "enumerate" := ⟨_, he, rfl⟩
  unfold pyNext
  refine wpAny_bind (wpAny_attempt (wpAny_callSpecial?_slot (name := Str.ofString "__next__") hT F.slot_enumerate_next
    (wpAny_call_entry F.slot_enumerate_next hT F.entry_enumerate_next ?_ (F.args_enumerate_next_1 _))))
  refine wpAny_bind (m := field (.ref e) 2) (wpAny_field he rfl (x := .ref it) rfl (wpAny_bind (m := Builtin.SmallTypes.nextOf (.ref it)) (hd fun h' x hp ⟨o, ho, hc⟩ => ?_)))
  exact wpAny_bind (wpAny_isInstance (T := "StopIteration") (b := true) ⟨o, ho, hc⟩ isSubtype_stop (wpAny_pure (hQ _ hp)))
/-- what another draws of a zip -/
theorem nextZ {z TI TO i1 i2 l1 l2 : Addr} {k1 k2 : Nat} {xs ys : Array Value} {x y u v : Value} {Q : Value → Shared → Prop} (D : ZipApart z TI TO i1 i2 l1 l2)
    (hz : ZipAt s.heap z TI TO) (hTI : IsPair s.heap TI (.ref i1) (.ref i2)) (hTO : IsPair s.heap TO u v) (h1 : ItK b1 s.heap i1 l1 k1) (h2 : ItK b2 s.heap i2 l2 k2) (hl1 : SqK b1 s.heap l1 xs) (hl2 : SqK b2 s.heap l2 ys)
    (hx : xs[k1]? = some x) (hy : ys[k2]? = some y)
    (hQ : ∀ h', ZipAt h' z TI TO → (∃ u v, IsPair h' TO u v) → ItK b1 h' i1 l1 (k1 + 1) → ItK b2 h' i2 l2 (k2 + 1) → IsPair h' s.heap.objs.size x y → h'.objs.size = s.heap.objs.size + 1 →
      (∀ c o, c ≠ z → c ≠ TO → c ≠ i1 → c ≠ i2 → s.heap.get? c = some o → h'.get? c = some o) → Q (.ref s.heap.objs.size) { s with heap := h' }) :
    wpAny (model prog w) A (Builtin.SmallTypes.nextOf (.ref z)) Q E s := by
  have hT : s.TypeIs (.ref z) "zip" := by obtain ⟨f0, b, _, e⟩ := hz; exact ⟨_, e, rfl⟩
  unfold Builtin.SmallTypes.nextOf
  exact wpAny_bind (wpAny_callSpecial?_slot (name := Str.ofString "__next__") hT F.slot_zip_next
    (wpAny_call_entry F.slot_zip_next hT F.entry_zip_next (zipZ_draw D hz hTI hTO h1 h2 hl1 hl2 hx hy fun h' a1 a2 a3 a4 a5 a6 a7 => wpAny_pure (hQ h' a1 a2 a3 a4 a5 a6 a7)) (F.args_zip_next_1 _)))
theorem nextZ_end {z TI TO i1 i2 l1 l2 : Addr} {k1 k2 : Nat} {xs ys : Array Value} {u v : Value} {Q : Value → Shared → Prop} (hh : A.handled = none) (D : ZipApart z TI TO i1 i2 l1 l2)
    (hz : ZipAt s.heap z TI TO) (hTI : IsPair s.heap TI (.ref i1) (.ref i2)) (hTO : IsPair s.heap TO u v) (h1 : ItK b1 s.heap i1 l1 k1) (h2 : ItK b2 s.heap i2 l2 k2) (hl1 : SqK b1 s.heap l1 xs) (hl2 : SqK b2 s.heap l2 ys)
    (hend : xs[k1]? = none ∨ ys[k2]? = none)
    (hE : ∀ h' e, (∀ c o, c ≠ z → c ≠ TO → c ≠ i1 → c ≠ i2 → s.heap.get? c = some o → h'.get? c = some o) → (∃ o, h'.get? e = some o ∧ o.cls = .type "StopIteration") → E (.ref e) { s with heap := h' }) :
    wpAny (model prog w) A (Builtin.SmallTypes.nextOf (.ref z)) Q E s := by
  have hT : s.TypeIs (.ref z) "zip" := by obtain ⟨f0, b, _, e⟩ := hz; exact ⟨_, e, rfl⟩
  unfold Builtin.SmallTypes.nextOf
  exact wpAny_bind (wpAny_callSpecial?_slot (name := Str.ofString "__next__") hT F.slot_zip_next
    (wpAny_call_entry F.slot_zip_next hT F.entry_zip_next (zipZ_stop hh D hz hTI hTO h1 h2 hl1 hl2 hend hE) (F.args_zip_next_1 _)))
end
theorem six {c e z TI TO i1 i2 : Addr} (h : c ∈ [e, z, TI, TO, i1, i2]) : c = e ∨ c = z ∨ c = TI ∨ c = TO ∨ c = i1 ∨ c = i2 := by simpa using h
/-- both as they stand at each turn, the items in new pairs, each with its number in another new pair -/
def ItzE (K : PySem.W.Frag) (b1 b2 : Bool) (a b : Addr) : It where
  go := fun i H => ∃ (xs ys : List V) (x y : V), SqB b1 K H a xs ∧ SqB b2 K H b ys ∧ xs[i]? = some x ∧ ys[i]? = some y
  yld := fun i H v H' => ∃ T U x y, v = .ref U ∧ H T = none ∧ upd H T (.tup [x, y]) U = none ∧ H' = upd (upd H T (.tup [x, y])) U (.tup [.int (i : Nat), .ref T]) ∧ (∀ xs, SqB b1 K H a xs → xs[i]? = some x) ∧ ∀ ys, SqB b2 K H b ys → ys[i]? = some y
  stop := fun i H => ∃ xs ys : List V, SqB b1 K H a xs ∧ SqB b2 K H b ys ∧ (xs.length ≤ i ∨ ys.length ≤ i)
structure EnzApart (e z TI TO i1 i2 a b : Addr) : Prop where
  D : ZipApart z TI TO i1 i2 a b
  ez : e ≠ z
  eTI : e ≠ TI
  eTO : e ≠ TO
  e1 : e ≠ i1
  e2 : e ≠ i2
section
variable {X : Cx} {b1 b2 : Bool}
theorem turn_enz {P : Program} {w : World} {K : PySem.W.Frag} {elts : List Expr} {kk : Nat} {tpos : Pos} {a b e z TI TO i1 i2 : Addr} (D : EnzApart e z TI TO i1 i2 a b) :
    Turn P w K (.Tuple elts kk tpos) (ItzE K b1 b2 a b) [e, z, TI, TO, i1, i2] e (fun i h => (∃ old, IsEnum h e z ((i : Nat) : Int) old) ∧ ZipAt h z TI TO ∧ IsPair h TI (.ref i1) (.ref i2) ∧ (∃ x y, IsPair h TO x y) ∧ ItK b1 h i1 a i ∧ ItK b2 h i2 b i) where
  mem := by simp
  obj := fun i h st c hc => by
    obtain ⟨⟨old, he⟩, ⟨f0, bb, _, hz⟩, hTI, ⟨x, y, hTO⟩, h1, h2⟩ := st
    obtain ⟨o1, e1, _, d1⟩ := h1.obj
    obtain ⟨o2, e2, _, d2⟩ := h2.obj
    rcases six hc with rfl | rfl | rfl | rfl | rfl | rfl
    · exact ⟨_, he, fun v q => nomatch q⟩
    · exact ⟨_, hz, fun v q => nomatch q⟩
    · exact ⟨_, hTI, fun v q => nomatch q⟩
    · exact ⟨_, hTO, fun v q => nomatch q⟩
    · exact ⟨o1, e1, fun v q => by rw [d1] at q; cases q⟩
    · exact ⟨o2, e2, fun v q => by rw [d2] at q; cases q⟩
  keep := fun i h h' ⟨⟨old, he⟩, hz, hTI, ⟨x, y, hTO⟩, h1, h2⟩ k => ⟨⟨old, k e (by simp) _ he⟩, hz.mv fun o q => k z (by simp) o q, k TI (by simp) _ hTI, ⟨x, y, k TO (by simp) _ hTO⟩, h1.mv fun o q => k i1 (by simp) o q, h2.mv fun o q => k i2 (by simp) o q⟩
  item := by
    intro X hP hw hK hc i pins s σ H E I hf st hg
    subst hP hw hK
    obtain ⟨⟨old, he⟩, hz, hTI, ⟨x0, y0, hTO⟩, h1, h2⟩ := st
    obtain ⟨xs, ys, x, y, hqx, hqy, hx, hy⟩ := hg
    obtain ⟨its, rv, p⟩ := sqB_at I hqx
    obtain ⟨its2, rv2, p2⟩ := sqB_at I hqy
    obtain ⟨u, hu, ru⟩ := rv.get hx
    obtain ⟨u2, hu2, ru2⟩ := rv2.get hy
    have hu : its.toArray[i]? = some u := by simpa using hu
    have hu2 : its2.toArray[i]? = some u2 := by simpa using hu2
    have lts : ∀ c ∈ [e, z, TI, TO, i1, i2], c < s.heap.objs.size := fun c hcm => by
      rcases six hcm with rfl | rfl | rfl | rfl | rfl | rfl
      · exact Heap.lt_size he
      · exact hz.lt
      · exact Heap.lt_size hTI
      · exact Heap.lt_size hTO
      · exact h1.lt
      · exact h2.lt
    have dd := D.D
    refine enumA_next (P := fun v h' => v = .ref s.heap.objs.size ∧ ZipAt h' z TI TO ∧ (∃ u v, IsPair h' TO u v) ∧ ItK b1 h' i1 a (i + 1) ∧ ItK b2 h' i2 b (i + 1) ∧ IsPair h' s.heap.objs.size u u2 ∧ h'.objs.size = s.heap.objs.size + 1 ∧ ∀ c o, c ≠ z → c ≠ TO → c ≠ i1 → c ≠ i2 → s.heap.get? c = some o → h'.get? c = some o) he
      (fun {Q' E'} q => nextZ dd hz hTI hTO h1 h2 p p2 hu hu2 fun h' a1 a2 a3 a4 a5 a6 a7 => q _ h' ⟨rfl, a1, a2, a3, a4, a5, a6, a7⟩) (fun v h' ⟨_, _, _, _, _, _, _, k⟩ => (k e _ D.ez D.eTO D.e1 D.e2 he).trans he.symm) fun v hA h' tk ⟨ev, zA, tA, a1, a2, pA, nA, kA⟩ ho hT hn hk => ?_
    subst ev
    have hel : e < hA.objs.size := Nat.lt_of_lt_of_le (lts e (by simp)) (by rw [nA]; exact Nat.le_succ _)
    refine ⟨_, rfl, wpAny_letOwnedTupleGo_enum (s := { s with heap := h', toks := tk + 1 }) ho fun h'' he' sb => ?_⟩
    -- the inner pair
    have offA : ∀ c o, c ∉ [e, z, TI, TO, i1, i2] → s.heap.get? c = some o → hA.get? c = some o := fun c o n q =>
      kA c o (fun e => n (by simp [e])) (fun e => n (by simp [e])) (fun e => n (by simp [e])) (fun e => n (by simp [e])) q
    have newA : ObjOk X.prog X.w (upd H s.heap.objs.size (.tup [x, y])) hA s.heap.objs.size (.tup [x, y]) :=
      ⟨by show 2 ≤ sizeLine; decide, [u, u2], .cons ru (.cons ru2 .nil), ⟨_, pA, rfl, _, rfl⟩⟩
    have IA : Inv X pins σ (upd H s.heap.objs.size (.tup [x, y])) { s with heap := hA, toks := s.toks } := I.turnedNew (t' := s.toks) (ch := [e, z, TI, TO, i1, i2]) offA hf (Nat.le_refl _) newA
    have hfA : ∀ c ∈ [e, z, TI, TO, i1, i2], FpOk X pins (upd H s.heap.objs.size (.tup [x, y])) c := fun c hcm => by
      obtain ⟨f0, fr⟩ := hf c hcm
      exact ⟨by rw [upd_ne (Nat.ne_of_lt (lts c hcm))]; exact f0, fr⟩
    -- the outer one
    have kB : ∀ c o, c ≠ e → hA.get? c = some o → h''.get? c = some o := fun c o n q => (sb.2 c n).trans (hk c o n q)
    have hT2 : h''.get? hA.objs.size = some { cls := .type "tuple", data := .seq #[.int i tk, .ref s.heap.objs.size] } := (sb.2 _ (Nat.ne_of_gt hel)).trans hT
    have newB : ObjOk X.prog X.w (upd (upd H s.heap.objs.size (.tup [x, y])) hA.objs.size (.tup [.int (i : Nat), .ref s.heap.objs.size])) h'' hA.objs.size (.tup [.int (i : Nat), .ref s.heap.objs.size]) :=
      ⟨by show 2 ≤ sizeLine; decide, [.int i tk, .ref s.heap.objs.size], .cons ⟨_, rfl⟩ (.cons rfl .nil), ⟨_, hT2, rfl, _, rfl⟩⟩
    have IB : Inv X pins σ (upd (upd H s.heap.objs.size (.tup [x, y])) hA.objs.size (.tup [.int (i : Nat), .ref s.heap.objs.size])) { s with heap := h'', toks := tk + 1 } :=
      IA.turnedNew (t' := tk + 1) (ch := [e, z, TI, TO, i1, i2]) (fun c o n q => kB c o (fun e => n (by simp [e])) q) hfA (Nat.le_refl _) newB
    refine ⟨.ref hA.objs.size, _, IB, rfl, ⟨s.heap.objs.size, hA.objs.size, x, y, rfl, I.hok.fresh (Nat.le_refl _), IA.hok.fresh (Nat.le_refl _), rfl, fun l hl => by rw [sqB_inj I hl hqx]; exact hx, fun l hl => by rw [sqB_inj I hl hqy]; exact hy⟩,
      ⟨⟨.ref s.heap.objs.size, ?_⟩, zA.mv fun o q => kB _ o D.ez.symm q, kB _ _ D.eTI.symm (kA _ _ dd.TIz dd.TITO dd.TIi1 dd.TIi2 hTI), (let ⟨u, v, q⟩ := tA; ⟨u, v, kB _ _ D.eTO.symm q⟩), a1.mv fun o q => kB _ o D.e1.symm q, a2.mv fun o q => kB _ o D.e2.symm q⟩, fun c hcm => ?_⟩
    · have e1 : ((i + 1 : Nat) : Int) = (i : Int) + 1 := by omega
      rw [e1]; exact he'
    · have := lts c hcm
      rw [upd_ne (Nat.ne_of_lt (Nat.lt_of_lt_of_le this (by rw [nA]; exact Nat.le_succ _))), upd_ne (Nat.ne_of_lt this)]
      exact (hf c hcm).1
  done := by
    intro X hP hw hK hc i pins s σ H E I hf st hg
    subst hP hw hK
    obtain ⟨⟨old, he⟩, hz, hTI, ⟨x0, y0, hTO⟩, h1, h2⟩ := st
    obtain ⟨xs, ys, hqx, hqy, hend⟩ := hg
    obtain ⟨its, rv, p⟩ := sqB_at I hqx
    obtain ⟨its2, rv2, p2⟩ := sqB_at I hqy
    have l1 := rv.length
    have l2 := rv2.length
    have hend2 : its.toArray[i]? = none ∨ its2.toArray[i]? = none := by
      rcases hend with q | q
      · left; simp; omega
      · right; simp; omega
    refine enumA_end (P := fun h' => ∀ c o, c ≠ z → c ≠ TO → c ≠ i1 → c ≠ i2 → s.heap.get? c = some o → h'.get? c = some o) he (fun {Q' E'} q => nextZ_end (I.ok.hd hc) D.D hz hTI hTO h1 h2 p p2 hend2 fun h' x k st => q h' x k st) fun h' hk => ⟨rfl, I.turnedL (t' := s.toks) (ch := [e, z, TI, TO, i1, i2]) (fun c o n q =>
      hk c o (fun e => n (by simp [e])) (fun e => n (by simp [e])) (fun e => n (by simp [e])) (fun e => n (by simp [e])) q) hf⟩
  self := fun A i s Q E st h => let ⟨⟨_, he⟩, _⟩ := st; wpAny_pyIter_enum he h
/-- a new enumerate on a zip: the zip is its own iterator -/
theorem meets_enumZ {z TI TO : Addr} : Meets (Builtin.«enumerate.__new__» ⟨[.type "enumerate", .ref z], []⟩) (fun _ R s => IsZip s.heap z TI TO .none ∧
      R (.ok (.ret (.ref s.heap.objs.size))) { s with heap := s.heap.push { cls := .type "enumerate", data := .fields #[.none, .bool false, .ref z, rawInt 0, .none, .none] } }) :=
  .of_wp fun prog w A R s h => by
    obtain ⟨hp, g, d, tk, os⟩ := s
    obtain ⟨hz, h⟩ := h
    have hsub := sub_enumerate
    have q1 : ∀ {A' : Around} {E : Value → Shared → Prop} {Q : Value → Shared → Prop}, Q (.ref z) ⟨hp, g, d, tk, os⟩ → wpAny (model prog w) A' (pyIter (.ref z)) Q E ⟨hp, g, d, tk, os⟩ := fun q => wpAny_pyIter_zip hz q
    wp_walk using q1
    refine wpAny_stack_any fun st => wpAny_pure ?_
    split
    · rename_i c _ _ _ _ _
      cases (c == Value.type "enumerate")
      · wp_walk using q1
        exact ⟨_, rfl, h⟩
      · wp_walk using q1
        exact ⟨_, rfl, h⟩
    · wp_walk using q1
      exact ⟨_, rfl, h⟩
theorem call_enumZ {prog : Program} {w : World} {A : Around} {E : Value → Shared → Prop} {s : Shared} {z TI TO : Addr} {Q : Value → Shared → Prop} (hz : IsZip s.heap z TI TO .none)
    (h : ∀ h', IsEnum h' s.heap.objs.size z 0 .none → h'.objs.size = s.heap.objs.size + 1 → (∀ b o, s.heap.get? b = some o → h'.get? b = some o) → Q (.ref s.heap.objs.size) { s with heap := h' }) :
    wpAny (model prog w) A (call (.type "enumerate") [.ref z]) Q E s := by
  refine callType_new F.called_enumerate (by decide) (F.typeCall_enumerate_1 _) (F.newCall_enumerate_1 _) (fun obj => F.args_object_init_2 obj _) F.entry_enumerate_new meets_enumZ ⟨hz, ?_⟩
  have he : IsEnum (s.heap.push { cls := .type "enumerate", data := .fields #[.none, .bool false, .ref z, rawInt 0, .none, .none] }) s.heap.objs.size z 0 .none := Heap.get?_push_size s.heap rfl
  exact ⟨⟨_, he, rfl⟩, h _ he (Heap.size_push ..) fun b o x => Heap.get?_push_of_some _ x⟩
def iEnz (K : PySem.W.Frag) (ta : TA) : TI := fun σ H R => ta σ H fun vs H1 => ∃ (b1 b2 : Bool) (a b : Addr) (xs ys : List V), vs = [.ref a, .ref b] ∧ SqB b1 K H1 a xs ∧ SqB b2 K H1 b ys ∧ R (ItzE K b1 b2 a b) H1
theorem pi_enz {e e2 : Expr} {ta : TA} {p p2 pos pos2 tpos : Pos} {elts : List Expr} {kk : Nat} (hg : Gl X "zip") (hm : X.mg "zip" = none) (hg2 : Gl X "enumerate") (hm2 : X.mg "enumerate" = none) (ha : PA X [e, e2] ta)
    (hs : starEach [e, e2] X.env = (false, eval e X.env) :: starEach [e2] X.env) (hpl : (backTo pos2 (starEach [e2] X.env)).any (·.1) = false) :
    PI X (.Tuple elts kk tpos) (.Call (.Name "enumerate" p) [.Call (.Name "zip" p2) [e, e2] [] pos2] [] pos) (iEnz X.K ta) := by
  refine ⟨fun pins s σ H R I h => ?_⟩
  have hs2 : starEach [Expr.Call (.Name "zip" p2) [e, e2] [] pos2] X.env = (false, eval (.Call (.Name "zip" p2) [e, e2] [] pos2) X.env) :: starEach [] X.env := starEach_cons fun v q => Expr.noConfusion
  refine Call_ (ld_blt I hg2 hm2 boot_enumerate (PyProof.Rows.callWith_type1 ?_ hs2 rfl))
  rw [hs2]
  show wpAny _ _ (spliced ((false, eval (.Call (.Name "zip" p2) [e, e2] [] pos2) X.env) :: backTo pos (starEach [] X.env))) _ _ s
  refine Calls.spliced_cons ?_
  refine Call_ (ld_blt I hg hm PyProof.Rows.boot_zip (PyProof.Rows.callWith_type1 (thn (ha.run pos2 pins s σ H _ I h) fun us s1 ⟨vs, H1, I1, r1, b1, b2, a, b, xs, ys, ex, hqx, hqy, q⟩ => ?_) hs hpl))
  subst ex
  cases r1 with
  | cons r rr =>
    cases rr with
    | cons r' rr =>
      cases rr
      cases r
      cases r'
      obtain ⟨its, rv, p1⟩ := sqB_at I1 hqx
      obtain ⟨its2, rv2, p2'⟩ := sqB_at I1 hqy
      refine callZipK p1 p2' fun h' hz hTI hTO h1 h2 hsz hk => ?_
      refine Calls.spliced_nil ?_
      refine call_enumZ hz fun h2' he hsz2 hk2 => wpAny_pyIter_enum he ?_
      rw [hsz] at he ⊢
      have I2 : Inv X pins σ H1 { s1 with heap := h2' } := I1.kept (t' := s1.toks) fun c o q => hk2 c o (hk c o q)
      have D := PySem.W.ktu_apart s1.heap.objs.size a b p1.lt p2'.lt
      have nn : ∀ k, k < 5 → s1.heap.objs.size + 5 ≠ s1.heap.objs.size + k := fun k hk => Nat.ne_of_gt (Nat.add_lt_add_left hk _)
      refine ⟨s1.heap.objs.size + 5, [s1.heap.objs.size + 5, s1.heap.objs.size + 4, s1.heap.objs.size + 2, s1.heap.objs.size + 3, s1.heap.objs.size, s1.heap.objs.size + 1], _, _, H1, rfl, I2,
        turn_enz ⟨D, nn 4 (by decide), nn 2 (by decide), nn 3 (by decide), nn 0 (by decide), nn 1 (by decide)⟩, ⟨⟨.none, he⟩, ⟨.none, false, .inl rfl, hk2 _ _ hz⟩, hk2 _ _ hTI, ⟨_, _, hk2 _ _ hTO⟩, h1.mv fun o q => hk2 _ o q, h2.mv fun o q => hk2 _ o q⟩, fun c hc => ?_, q⟩
      have hle : s1.heap.objs.size ≤ c := by
        rcases six hc with rfl | rfl | rfl | rfl | rfl | rfl
        · exact Nat.le_add_right _ _
        · exact Nat.le_add_right _ _
        · exact Nat.le_add_right _ _
        · exact Nat.le_add_right _ _
        · exact Nat.le_refl _
        · exact Nat.le_add_right _ _
      exact I1.fpOk hle (I1.hok.fresh hle)
end
section
variable {X : Cx} {K : PySem.W.Frag} {B H : Hp} {μ : Mu} {h : CH}
theorem enz_get {xs ys : List CV} {i : Nat} {c d : CV} (e1 : xs[i]? = some c) (e2 : ys[i]? = some d) : ((List.zipWith (fun x y => CV.tup [x, y]) xs ys).zipIdx.map fun (x, k) => CV.tup [.int (k : Int), x])[i]? = some (.tup [.int (i : Int), .tup [c, d]]) :=
  enum_get (zip_get e1 e2)
theorem i_enz {a b : Expr} {p p2 pos pos2 tpos : Pos} {elts : List Expr} {kk : Nat} {ia ib : CE} (hg : Gl X "zip") (hm : X.mg "zip" = none) (hg2 : Gl X "enumerate") (hm2 : X.mg "enumerate" = none) (ha : PE X a (tE X.K (wE ia))) (hb : PE X b (tE X.K (wE ib))) (hst : stars [a, b] = false) :
    PI X (.Tuple elts kk tpos) (.Call (.Name "enumerate" p) [.Call (.Name "zip" p2) [a, b] [] pos2] [] pos) (tI X.K (wI (.enumz ia ib))) := by
  obtain ⟨s1, s2⟩ := stars_cons hst
  obtain ⟨s3, _⟩ := stars_cons s2
  refine PI.imp (pi_enz hg hm hg2 hm2 (pa_cons ha (pa_cons hb pa_nil (starEach_cons s3)) (starEach_cons s1)) (starEach_cons s1) (plain_of s2)) fun σ H R ⟨c, h, μ, k, E, rs, rel, w, hE, ps⟩ => ?_
  refine ⟨c, h, μ, _, E, rs, rel, w, hE, fun r1 h1 w1 μ1 H1 x e1 rel1 rr1 => ?_⟩
  refine ⟨c, h1, μ1, _, E, rs.ext e1, rel1, w1, hE, fun r2 h2 w2 μ2 H2 y e2 rel2 rr2 => ?_⟩
  obtain ⟨xs, eq1, w2⟩ := oP_of w2
  obtain ⟨ys, eq2, w2⟩ := oP_of w2
  obtain ⟨b1, p1, vs0, rfl, sq1, wk1⟩ := walk_sq rel2 (rr1.on e2) eq1
  obtain ⟨b2, p2, us0, rfl, sq2, wk2⟩ := walk_sq rel2 (rr2.back e1 rel1) eq2
  refine ⟨b1, b2, p1, p2, vs0, us0, rfl, sq1, sq2, ps _ _ _ w2 μ2 H2 _ (e1.trans e2) rel2 fun μ3 h3 H3 e3 rel3 g3 => ?_⟩
  obtain ⟨vs, q1, rv1⟩ := wk1 μ3 h3 H3 e3 rel3 g3.1
  obtain ⟨us, q2, rv2⟩ := wk2 μ3 h3 H3 e3 rel3 g3.2
  have l1 := rv1.length
  have l2 := rv2.length
  rw [List.length_map, List.length_zipIdx, List.length_zipWith]
  refine ⟨fun i hi => ⟨vs, us, vs[i]'(by omega), us[i]'(by omega), q1, q2, List.getElem?_eq_getElem _, List.getElem?_eq_getElem _⟩, ⟨vs, us, q1, q2, by omega⟩, fun i x H' hi y => ?_⟩
  obtain ⟨T, U, u, v, rfl, n, n2, rfl, y1, y2⟩ := y
  obtain ⟨u', a1, a2⟩ := rv1.get (i := i) (x := xs[i]'(by omega)) (List.getElem?_eq_getElem _)
  obtain ⟨v', c1, c2⟩ := rv2.get (i := i) (x := ys[i]'(by omega)) (List.getElem?_eq_getElem _)
  have z1 := y1 vs q1
  have z2 := y2 us q2
  rw [a1] at z1; cases z1
  rw [c1] at z2; cases z2
  obtain ⟨w1, w2, w3⟩ := yld_pair rel3 n a2 c2
  obtain ⟨w4, w5, w6⟩ := yld_pair (T := U) w2 n2 (.int (i : Nat)) w3
  exact ⟨w1.trans w4, w5, _, enz_get (List.getElem?_eq_getElem _) (List.getElem?_eq_getElem _), w6⟩
end
end G

namespace G
open PySem PySem.Spec PyProof.Rows L2
section
variable {X : Cx} {K : PySem.W.Frag} {H H0 H1 H' : Hp} {μ μ0 μ1 μ' : Mu} {h h1 : CH}
theorem wipe_len (σ : L2.St) (vs : List Nat) : (L2.wipe σ vs).length = σ.length := L2.wipe_length σ vs
theorem wipe_in {σ : L2.St} {i : Nat} : ∀ {vs : List Nat}, i ∈ vs → (L2.wipe σ vs)[i]? = if i < σ.length then some none else none
  | v :: vs, h => by
    unfold L2.wipe
    by_cases e : v = i
    · subst e
      by_cases hl : v < σ.length
      · rw [List.getElem?_set_self (by rw [wipe_len]; exact hl), if_pos hl]
      · rw [if_neg hl, List.getElem?_eq_none (by rw [List.length_set, wipe_len]; omega)]
    · rw [List.getElem?_set_ne e]
      rcases List.mem_cons.mp h with z | z
      · exact absurd z.symm e
      · exact wipe_in z
theorem wipe_agree {σ σ2 : L2.St} {vs : List Nat} (hl : σ2.length = σ.length) (ag : ∀ i, i ∉ vs → σ2[i]? = (L2.wipe σ vs)[i]?) : L2.wipe σ2 vs = L2.wipe σ vs := by
  apply List.ext_getElem?
  intro i
  by_cases h : i ∈ vs
  · rw [wipe_in h, wipe_in h, hl]
  · rw [L2.wipe_out h, ag i h]
/-- the new list at D grows -/
theorem RT.updD {D p : Addr} {acc vs : List V} {o : HO} (hD : H D = some (.lst acc)) (h : RT K H μ p vs) : RT K (upd H D o) μ p vs := by
  rcases h with ⟨h, n⟩ | h
  · have ne : p ≠ D := fun z => by
      subst z
      rcases h with q | ⟨_, q⟩ <;> (rw [hD] at q; cases q)
    refine .inl ⟨?_, n⟩
    rcases h with q | ⟨u, q⟩
    · exact .inl (by rw [upd_ne ne]; exact q)
    · exact .inr ⟨u, by rw [upd_ne ne]; exact q⟩
  · exact .inr h
mutual
theorem RV.updD {D : Addr} {acc : List V} {o : HO} (hD : H D = some (.lst acc)) (nm : D ∉ μ) : ∀ {x : CV} {v : V}, RV K H μ x v → RV K (upd H D o) μ x v
  | _, _, .non => .non
  | _, _, .bl b => .bl b
  | _, _, .int i => .int i
  | _, _, .str h => .str h
  | _, _, .tup h r => .tup (h.updD hD) (RVs.updD hD nm r)
  | _, _, .lst z h r => .lst z (by rw [upd_ne (fun e => nm (.inr (by rw [← e]; exact z)))]; exact h) (RVs.updD hD nm r)
  | _, _, .obj z h l r => .obj z (by rw [upd_ne (fun e => nm (.inr (by rw [← e]; exact z)))]; exact h) l (RVs.updD hD nm r)
  | _, _, .ref h => .ref h
theorem RVs.updD {D : Addr} {acc : List V} {o : HO} (hD : H D = some (.lst acc)) (nm : D ∉ μ) : ∀ {xs : List CV} {vs : List V}, RVs K H μ xs vs → RVs K (upd H D o) μ xs vs
  | _, _, .nil => .nil
  | _, _, .cons h r => .cons (RV.updD hD nm h) (RVs.updD hD nm r)
end
theorem RF.updD {D : Addr} {acc : List V} {o : HO} (hD : H D = some (.lst acc)) (nm : D ∉ μ) : ∀ {xs : List (Str × CV)} {vs : List (Str × V)}, RF K H μ xs vs → RF K (upd H D o) μ xs vs
  | _, _, .nil => .nil
  | _, _, .cons h r => .cons (h.updD hD nm) (RF.updD hD nm r)
theorem Rel.updD {D : Addr} {acc : List V} {o : HO} (hD : H D = some (.lst acc)) (n : D ∉ μ) (r : Rel K μ h H) : Rel K μ h (upd H D o) :=
  ⟨r.len, r.nd, r.dj, fun q z => by
    obtain ⟨u, e⟩ := r.hz q z
    exact ⟨u, by rw [upd_ne (fun y => n (.inr (by rw [← y]; exact z)))]; exact e⟩, fun a u p ha hp => by
    have ne : p ≠ D := fun z => n (.inl (by rw [← z]; exact List.mem_of_getElem? hp))
    have q := r.ob a u p ha hp
    cases u with
    | lst _ => obtain ⟨vs, z, rr⟩ := q; exact ⟨vs, by rw [upd_ne ne]; exact z, rr.updD hD n⟩
    | fro _ => obtain ⟨o, vs, z, rr⟩ := q; exact ⟨o, vs, by rw [upd_ne ne]; exact z, rr.updD hD n⟩
    | ins _ _ => obtain ⟨dx, vs, z, rr⟩ := q; exact ⟨dx, vs, by rw [upd_ne ne]; exact z, rr.updD hD n⟩⟩
theorem RS.updD {D : Addr} {acc : List V} {o : HO} (hD : H D = some (.lst acc)) (nm : D ∉ μ) {c : CSt} {σ : L2.St} (r : RS K H μ c σ) : RS K (upd H D o) μ c σ := ⟨r.len, fun i x e => let ⟨v, a, b⟩ := r.at_ i x e; ⟨v, a, b.updD hD nm⟩⟩
/-- from where D was not yet -/
theorem ext_updD {D : Addr} {o : HO} (f : H0 D = none) (e : Ext H0 μ0 H μ) : Ext H0 μ0 (upd H D o) μ := ⟨e.pre, e.pz, e.fresh, fun p u n q => by rw [upd_ne (ne_of_none q f)]; exact e.keep p u n q, fun p u z q => by rw [upd_ne (ne_of_none q f)]; exact e.kz p u z q⟩

mutual
theorem wG_len : ∀ (t : CT) (x : CV) (c c' : CSt), wG t x c = some c' → c'.length = c.length
  | .name i, x, c, c', e => by simp only [wG] at e; cases e; exact sv_length c i x
  | .tup ts, .tup xs, c, c', e => by simp only [wG] at e; exact wGs_length ts xs c c' e
  | .tup _, .non, _, _, e => by simp [wG] at e
  | .tup _, .bl _, _, _, e => by simp [wG] at e
  | .tup _, .int _, _, _, e => by simp [wG] at e
  | .tup _, .str _, _, _, e => by simp [wG] at e
  | .tup _, .ref _, _, _, e => by simp [wG] at e
  | .tup _, .lst _, _, _, e => by simp [wG] at e
  | .tup _, .obj _ _ _, _, _, e => by simp [wG] at e
theorem wGs_length : ∀ (ts : CTs) (xs : List CV) (c c' : CSt), wGs ts xs c = some c' → c'.length = c.length
  | .nil, [], _, _, e => by simp only [wGs] at e; cases e; rfl
  | .nil, _ :: _, _, _, e => by simp [wGs] at e
  | .cons _ _, [], _, _, e => by simp [wGs] at e
  | .cons t r, x :: xs, c, c', e => by
    simp only [wGs] at e
    cases q : wG t x c with
    | none => rw [q] at e; cases e
    | some c1 =>
      rw [q] at e
      exact (wGs_length r xs c1 c' e).trans (wG_len t x c c1 q)
end
/-- an item goes to the end of the new list -/
theorem lc_grow {D : Addr} {acc : List V} {accC : List CV} {y : V} {r : CR} {H5 : Hp} {N : CV → CH → Prop} (nD : H1 D = none) (e16 : Ext H1 μ1 H μ) (rel : Rel K μ h H) (nm : D ∉ μ) (hD : H D = some (.lst acc)) (hD5 : H5 D = some (.lst acc)) (f5 : ∀ p, H5 p = none → H1 p = none) (rv : RVs K H μ accC acc)
    (rr : RR K H5 H μ r y) (w : adopt r h N) : ∃ h2 μ2 d, Rel K μ2 h2 (upd H D (.lst (acc ++ [y]))) ∧ Ext H1 μ1 (upd H D (.lst (acc ++ [y]))) μ2 ∧ D ∉ μ2 ∧ RVs K (upd H D (.lst (acc ++ [y]))) μ2 (accC ++ [d]) (acc ++ [y]) ∧ N d h2 ∧ (∀ B H4 μ4 a0, B D ≠ none → H4 D = some (.lst a0) → (∀ p, p ∉ μ → H p = none → H4 p = none) → ExtT B H4 μ4 H μ → (∀ p, H5 p = none → H4 p = none) → ExtT B H4 μ4 (upd H D (.lst (acc ++ [y]))) μ2) := by
  have kz4 : ∀ {B H4 : Hp} {μ4 : Mu} {a0 : List V} {o : HO}, H4 D = some (.lst a0) → ExtT B H4 μ4 H μ → ∀ p u, μ4.z p → H4 p = some u → upd H D o p = some u := fun {B H4 μ4 a0 o} b2 e p u z q => by
    rw [upd_ne (fun y => nm (.inr (e.pz _ (by rw [← y]; exact z))))]
    exact e.kz p u z q
  cases r with
  | v dd =>
    refine ⟨h, μ, dd, rel.updD hD nm, ext_updD nD e16, nm, (rv.updD hD nm).append (.cons (RV.updD hD nm rr) .nil), w, fun B H4 μ4 a0 b1 b2 b3 e _ => ⟨e.pre, e.pz, kz4 b2 e, e.fresh, fun p o n q c => ?_⟩⟩
    by_cases z : p = D
    · subst z
      rw [b2] at q; cases q
      rcases c with c | c
      · exact absurd c b1
      · exact absurd rfl (c _)
    · rw [upd_ne z]; exact e.keep p o n q c
  | al ys =>
    obtain ⟨p, vs, ex, f, np, hp, rvs⟩ := rr
    subst ex
    have pD : D ≠ p := fun z => by subst z; rw [hD5] at f; cases f
    have n7 : D ∉ μ.frz p := fun m7 => by
      rcases Mu.mem_frz m7 with z | z
      · exact nm z
      · exact pD z
    have e7 : Ext H1 μ1 H (μ.frz p) := ext_frz e16 (f5 _ f)
    have rel7 := rel.frz np ⟨_, hp⟩ (lst_np hp)
    have mm : More H μ (μ.frz p) p := more_frz (lst_np hp)
    refine ⟨_, μ.frz p, .lst ys, rel7.updD hD n7, ext_updD nD e7, n7, ((rv.more mm).updD hD n7).append (.cons (RV.updD hD n7 (.lst (.inr rfl) hp (rvs.more mm))) .nil), w, fun B H4 μ4 a0 b1 b2 b3 e b5 => ⟨e.pre, fun q z => .inl (e.pz q z), kz4 b2 e, fun b m nb => ?_, fun p' o n q c => ?_⟩⟩
    · rcases Mu.mem_frz m with m | m
      · exact e.fresh b m nb
      · subst m; exact b5 _ f
    · by_cases z : p' = D
      · subst z
        rw [b2] at q; cases q
        rcases c with c | c
        · exact absurd c b1
        · exact absurd rfl (c _)
      · rw [upd_ne z]; exact e.keep p' o n q c
theorem s_lc {elt tg iter : Expr} {ifs : List Expr} {scope : Scope} {own : List (Str × Nat)} {pos : Pos} {it : CI} {t : CT} {ic : CB} {ie : CE} {σ : L2.St} {H : Hp} {Q : VK}
    (hsub : ∀ i ∈ ctN t, i ∈ own.map (·.2)) (w : tE K (wE (.lc (own.map (·.2)) t it ic ie)) σ H Q) : tLc (tI K (wI it)) (tG K t) (tB K (wB ic)) (tE K (wE ie)) (own.map (·.2)) σ H Q := by
  obtain ⟨c, h, μ, k, E, rs, rel, w, hE, ps⟩ := w
  refine ⟨c, h, μ, _, E, rs, rel, w, hE, fun xs G h1 w1 μ1 H1 J e1 rel1 wk D nD => ?_⟩
  obtain ⟨hz, P, p0, pG, pS, pE⟩ := w1
  have fD : H D = none := e1.none rel1 nD
  refine ⟨fun i m H2 => m = xs.length - i ∧ i ≤ xs.length ∧ ∃ h2 μ2 acc accC, Rel K μ2 h2 H2 ∧ Ext H1 μ1 H2 μ2 ∧ H2 D = some (.lst acc) ∧ D ∉ μ2 ∧ RVs K H2 μ2 accC acc ∧ acc.length ≤ i ∧ P i accC h2,
    ⟨xs.length, by simp, Nat.zero_le _, h1, μ1, [], [], rel1.laid nD, ext_laid nD, upd_same, rel1.notMem nD, .nil, Nat.le_refl _, p0⟩, ?_⟩
  rintro i m H2 ⟨rfl, hi, h2, μ2, acc, accC, rel2, e2, hD, nm, rv, hl, p2⟩
  obtain ⟨go, stop, yl⟩ := wk μ2 h2 H2 e2.t rel2 (pG i accC h2 hi p2)
  by_cases hlt : i < xs.length
  · refine .inr ⟨go i hlt, fun H3 => ∃ h2 μ2 acc accC, Rel K μ2 h2 H3 ∧ Ext H1 μ1 H3 μ2 ∧ H3 D = some (.lst acc) ∧ D ∉ μ2 ∧ RVs K H3 μ2 accC acc ∧ acc.length ≤ i + 1 ∧ P (i + 1) accC h2, fun H3 q => ⟨xs.length - (i + 1), by omega, rfl, hlt, q⟩, fun x H3 y => ?_⟩
    obtain ⟨e3, rel3, d, ed, rvx⟩ := yl i x H3 hlt y
    have st := pS i d accC h2 ed p2
    obtain ⟨c3, eg, st⟩ := oP_of st
    ·
      have rs3 : RS K H3 μ2 c σ := (rs.ext e1).ext (e2.trans e3)
      refine ⟨uvs c (own.map (·.2)), h2, μ2, d, c3, rs3.wipe _, rel3, rvx, eg, fun σ4 rs4 ag => ?_⟩
      have len4 : σ4.length = σ.length := by
        have a := rs4.len
        have b := rs3.len
        have := wG_len t d _ c3 eg
        have := (rs3.wipe (own.map (·.2))).len
        rw [wipe_len] at this
        omega
      refine ⟨wipe_agree len4 fun j hj => ag j fun z => hj (hsub j z), ?_⟩
      refine ⟨c3, h2, μ2, _, _, rs4, rel3, st, fun _ _ z => z, fun b h5 w5 μ5 H5 e5 rel5 => ?_⟩
      have e35 := e3.trans e5
      obtain ⟨hD5, nm5⟩ := e35.stay nm hD
      have rv5 := rv.ext e35
      have e15 := e2.trans e35
      cases b with
      | false => exact ⟨h5, μ5, acc, accC, rel5, e15, hD5, nm5, rv5, Nat.le_succ_of_le hl, w5⟩
      | true =>
        refine ⟨c3, h5, μ5, _, _, rs4.ext e5, rel5, w5, fun _ _ z => z, fun r h6 w6 μ6 H6 y e6 rel6 rr6 => ?_⟩
        obtain ⟨hD6, nm6⟩ := e6.stay nm5 hD5
        have rv6 := rv5.ext e6
        have e16 := e15.trans e6
        have hz' : acc.length < sizeLine := by omega
        refine ⟨acc, hD6, hz', ?_⟩
        have grow : ∀ {μ7 : Mu} {h7 : CH} {dd : CV}, D ∉ μ7 → Ext H1 μ1 H6 μ7 → Rel K μ7 h7 H6 → RVs K H6 μ7 accC acc → RV K H6 μ7 dd y → P (i + 1) (accC ++ [dd]) h7 → ∃ h2 μ2 acc2 accC, Rel K μ2 h2 (upd H6 D (.lst (acc ++ [y]))) ∧ Ext H1 μ1 (upd H6 D (.lst (acc ++ [y]))) μ2 ∧ (upd H6 D (.lst (acc ++ [y]))) D = some (.lst acc2) ∧ D ∉ μ2 ∧ RVs K (upd H6 D (.lst (acc ++ [y]))) μ2 accC acc2 ∧ acc2.length ≤ i + 1 ∧ P (i + 1) accC h2 :=
          fun {μ7 h7 dd} n7 e7 rel7 rv7 rd p7 => ⟨h7, μ7, _, _, rel7.updD hD6 n7, (ext_updD nD e7), upd_same, n7, (rv7.updD hD6 n7).append (.cons (rd.updD hD6 n7) .nil), by rw [List.length_append]; simp; omega, p7⟩
        cases r with
        | v dd => exact grow nm6 e16 rel6 rv6 rr6 w6
        | al ys =>
          obtain ⟨p, vs, ex, f, np, hp, rvs⟩ := rr6
          subst ex
          have pD : D ≠ p := fun z => by subst z; rw [hD5] at f; cases f
          have n7 : D ∉ μ6.frz p := fun m7 => by
            rcases Mu.mem_frz m7 with z | z
            · exact nm6 z
            · exact pD z
          have f1 : H1 p = none := e15.none rel5 f
          have e7 : Ext H1 μ1 H6 (μ6.frz p) := ext_frz e16 f1
          have rel7 := rel6.frz np ⟨_, hp⟩ (lst_np hp)
          have mm : More H6 μ6 (μ6.frz p) p := more_frz (lst_np hp)
          exact grow n7 e7 rel7 (rv6.more mm) (.lst (.inr rfl) hp (rvs.more mm)) w6
  · have e : i = xs.length := by omega
    subst e
    exact .inl ⟨stop, ps _ _ (pE accC h2 p2) μ2 H2 _ (e1.trans e2) rel2 ⟨D, acc, rfl, fD, nm, hD, rv⟩⟩
theorem RS.extT {B : Hp} {c : CSt} {σ : L2.St} (e : ExtT B H μ H' μ') (r : RS K H μ c σ) : RS K H' μ' c σ :=
  ⟨r.len, fun i x q => let ⟨v, a, b⟩ := r.at_ i x q; ⟨v, a, b.extT e⟩⟩
theorem s_lc2 {elt tg iter tg1 iter1 : Expr} {ifs ifs1 : List Expr} {scope : Scope} {own : List (Str × Nat)} {pos : Pos} {it it1 : CI} {t t1 : CT} {ic ic1 : CB} {ie : CE} {σ : L2.St} {H : Hp} {Q : VK}
    (hsub : ∀ i ∈ ctN t, i ∈ own.map (·.2)) (w : tE K (wE (.lc2 (own.map (·.2)) t it ic t1 it1 ic1 ie)) σ H Q) :
    tLc2 (tI K (wI it)) (tG K t) (tB K (wB ic)) (tI K (wI it1)) (tG K t1) (tB K (wB ic1)) (tE K (wE ie)) (own.map (·.2)) (ctN t1) σ H Q := by
  obtain ⟨c, h, μ, k, E, rs, rel, w, hE, ps⟩ := w
  refine ⟨c, h, μ, _, E, rs, rel, w, hE, fun xs G h1 w1 μ1 H1 J e1 rel1 wk D nD => ?_⟩
  obtain ⟨P, p0, pG, pS, pE⟩ := w1
  have fD : H D = none := e1.none rel1 nD
  refine ⟨fun i m H2 => m = xs.length - i ∧ i ≤ xs.length ∧ ∃ h2 μ2 acc accC, Rel K μ2 h2 H2 ∧ Ext H1 μ1 H2 μ2 ∧ H2 D = some (.lst acc) ∧ D ∉ μ2 ∧ RVs K H2 μ2 accC acc ∧ P i accC h2,
    ⟨xs.length, by simp, Nat.zero_le _, h1, μ1, [], [], rel1.laid nD, ext_laid nD, upd_same, rel1.notMem nD, .nil, p0⟩, ?_⟩
  rintro i m H2 ⟨rfl, hi, h2, μ2, acc, accC, rel2, e2, hD, nm, rv, p2⟩
  obtain ⟨go, stop, yl⟩ := wk μ2 h2 H2 e2.t rel2 (pG i accC h2 hi p2)
  by_cases hlt : i < xs.length
  · refine .inr ⟨go i hlt, fun H3 => ∃ h2 μ2 acc accC, Rel K μ2 h2 H3 ∧ Ext H1 μ1 H3 μ2 ∧ H3 D = some (.lst acc) ∧ D ∉ μ2 ∧ RVs K H3 μ2 accC acc ∧ P (i + 1) accC h2, fun H3 q => ⟨xs.length - (i + 1), by omega, rfl, hlt, q⟩, fun x H3 y => ?_⟩
    obtain ⟨e3, rel3, d, ed, rvx⟩ := yl i x H3 hlt y
    have st := pS i d accC h2 ed p2
    obtain ⟨c3, eg, st⟩ := oP_of st
    ·
      have rs3 : RS K H3 μ2 c σ := (rs.ext e1).ext (e2.trans e3)
      refine ⟨uvs c (own.map (·.2)), h2, μ2, d, c3, rs3.wipe _, rel3, rvx, eg, fun σ4 rs4 ag => ?_⟩
      have len4 : σ4.length = σ.length := by
        have a := rs4.len
        have b := rs3.len
        have := wG_len t d _ c3 eg
        have := (rs3.wipe (own.map (·.2))).len
        rw [wipe_len] at this
        omega
      refine ⟨wipe_agree len4 fun j hj => ag j fun z => hj (hsub j z), ?_⟩
      refine ⟨c3, h2, μ2, _, _, rs4, rel3, st, fun _ _ z => z, fun b h5 w5 μ5 H5 e5 rel5 => ?_⟩
      have e35 := e3.trans e5
      obtain ⟨hD5, nm5⟩ := e35.stay nm hD
      have rv5 := rv.ext e35
      have e15 := e2.trans e35
      have rs5 := rs4.ext e5
      cases b with
      | false => exact ⟨h5, μ5, acc, accC, rel5, e15, hD5, nm5, rv5, w5⟩
      | true =>
        -- the second source
        refine ⟨c3, h5, μ5, _, _, rs5, rel5, w5, fun _ _ z => z, fun ys G1 h6 w6 μ6 H6 J1 e6 rel6 wk1 => ?_⟩
        obtain ⟨hD6, nm6⟩ := e6.stay nm5 hD5
        have rv6 := rv5.ext e6
        have e16 := e15.trans e6
        have rs6 := rs5.ext e6
        obtain ⟨P1, q0, qG, qS, qE⟩ := w6
        have bD : H5 D ≠ none := by rw [hD5]; exact fun z => by cases z
        refine ⟨fun j m H7 => m = ys.length - j ∧ j ≤ ys.length ∧ ∃ h7 μ7 acc1 accC1, Rel K μ7 h7 H7 ∧ Ext H1 μ1 H7 μ7 ∧ ExtT H5 H6 μ6 H7 μ7 ∧ (∀ p, H7 p = none → H6 p = none) ∧ H7 D = some (.lst acc1) ∧ D ∉ μ7 ∧ RVs K H7 μ7 accC1 acc1 ∧ P1 j accC1 h7,
          ⟨ys.length, by simp, Nat.zero_le _, h6, μ6, acc, accC, rel6, e16, ExtT.refl, fun _ z => z, hD6, nm6, rv6, q0⟩, ?_⟩
        rintro j m H7 ⟨rfl, hj, h7, μ7, acc1, accC1, rel7, e17, t7, f7, hD7, nm7, rv7, p7⟩
        obtain ⟨go1, stop1, yl1⟩ := wk1 μ7 h7 H7 t7 rel7 (qG j accC1 h7 hj p7)
        by_cases hlt1 : j < ys.length
        · refine .inr ⟨go1 j hlt1, fun H8 => ∃ h8 μ8 acc2 accC2, Rel K μ8 h8 H8 ∧ Ext H1 μ1 H8 μ8 ∧ ExtT H5 H6 μ6 H8 μ8 ∧ (∀ p, H8 p = none → H6 p = none) ∧ H8 D = some (.lst acc2) ∧ D ∉ μ8 ∧ RVs K H8 μ8 accC2 acc2 ∧ P1 (j + 1) accC2 h8, fun H8 q => ⟨ys.length - (j + 1), by omega, rfl, hlt1, q⟩, fun x1 H8 y1 => ?_⟩
          obtain ⟨e8, rel8, d1, ed1, rvx1⟩ := yl1 j x1 H8 hlt1 y1
          have st1 := qS j d1 accC1 h7 ed1 p7
          obtain ⟨c4, eg1, st1⟩ := oP_of st1
          ·
            have f8 : ∀ p, H8 p = none → H6 p = none := fun p n => f7 p (e8.none rel8 n)
            have t8 : ExtT H5 H6 μ6 H8 μ7 := t7.on e8 fun p _ n => f7 p n
            have rs8 : RS K H8 μ7 c3 σ4 := rs6.extT t8
            refine ⟨uvs c3 (ctN t1), h7, μ7, d1, c4, rs8.wipe _, rel8, rvx1, eg1, fun σ9 rs9 ag1 => ?_⟩
            have len9 : σ9.length = σ4.length := by
              have a := rs9.len
              have b := rs8.len
              have := wG_len t1 d1 _ c4 eg1
              have := (rs8.wipe (ctN t1)).len
              rw [wipe_len] at this
              omega
            refine ⟨wipe_agree len9 fun j hj => ag1 j hj, ?_⟩
            refine ⟨c4, h7, μ7, _, _, rs9, rel8, st1, fun _ _ z => z, fun b1 h10 w10 μ10 H10 e10 rel10 => ?_⟩
            have e810 := e8.trans e10
            obtain ⟨hD10, nm10⟩ := e810.stay nm7 hD7
            have rv10 := rv7.ext e810
            have e110 := e17.trans e810
            have f10 : ∀ p, H10 p = none → H6 p = none := fun p n => f8 p (e10.none rel10 n)
            have t10 : ExtT H5 H6 μ6 H10 μ10 := t8.on e10 fun p _ n => f8 p n
            cases b1 with
            | false => exact ⟨h10, μ10, acc1, accC1, rel10, e110, t10, f10, hD10, nm10, rv10, w10⟩
            | true =>
              refine ⟨c4, h10, μ10, _, _, rs9.ext e10, rel10, w10, fun _ _ z => z, fun r h11 w11 μ11 H11 y e11 rel11 rr11 => ?_⟩
              obtain ⟨hD11, nm11⟩ := e11.stay nm10 hD10
              have rv11 := rv10.ext e11
              have e111 := e110.trans e11
              have f11 : ∀ p, H11 p = none → H6 p = none := fun p n => f10 p (e11.none rel11 n)
              have t11 : ExtT H5 H6 μ6 H11 μ11 := t10.on e11 fun p _ n => f10 p n
              obtain ⟨h12, μ12, dd, g1, g2, g3, g4, ⟨g5a, g5b⟩, g6⟩ := lc_grow nD e111 rel11 nm11 hD11 hD10 (fun p n => e110.none rel10 n) rv11 rr11 w11
              refine ⟨acc1, hD11, by rw [← rv7.length]; exact g5a, h12, μ12, _, _, g1, g2, g6 H5 H6 μ6 _ bD hD6 (fun p _ n => f11 p n) t11 f10, fun p n => ?_, upd_same, g3, g4, g5b⟩
              by_cases z : p = D
              · subst z
                rw [upd_same] at n; cases n
              · rw [upd_ne z] at n; exact f11 p n
        · have e : j = ys.length := by omega
          subst e
          exact .inl ⟨stop1, h7, μ7, acc1, accC1, rel7, e17, hD7, nm7, rv7, qE _ _ p7⟩
  · have e : i = xs.length := by omega
    subst e
    exact .inl ⟨stop, ps _ _ (pE accC h2 p2) μ2 H2 _ (e1.trans e2) rel2 ⟨D, acc, rfl, fD, nm, hD, rv⟩⟩
end
end G

/-! == and != of two instances of one class -/
namespace G
open PySem PySem.Spec PyProof.Rows L2
section
variable {prog : Program} {w : World} {A : Around} {E : Value → Shared → Prop} {s : Shared} {K : PySem.W.Frag} {x y C f : Addr} {ox oy : Obj} {od od' : Option Obj}
/-- a class without comparisons of its own -/
structure ObjEq (K : PySem.W.Frag) (C : Addr) : Prop where
  top : PySem.W.mroIn K C (.type "object") = some true
  eq : PySem.W.findIn K (.ref C) "__eq__" = some (some (.builtin "object.__eq__"))
  ne : PySem.W.findIn K (.ref C) "__ne__" = some (some (.builtin "object.__ne__"))
theorem ifBound_objNe {M : Model} {args : List Value} {Q : Option Value → Shared → Prop} (X : K.In s.heap) (I : PySem.W.InstAt s.heap x ox C od) (hs : PySem.W.findIn K (.ref C) "__ne__" = some (some (.builtin "object.__ne__")))
    (h : wpAny M A (call (.builtin "object.__ne__") (.ref x :: args)) (fun v => Q (some v)) E s) : wpAny M A (callSpecialIfBound? (.ref x) "__ne__" args) Q E s := by
  simp only [callSpecialIfBound?, bindSpecialIfBound?]
  refine wpAny_holding (wpAny_bind (wpAny_bind (wpAny_bind (I.type.here ((PySem.W.looks_findIn X hs).here ?_)))))
  refine wpAny_bind (wpAny_askSetting (wpAny_ite ?_))
  have fin : wpAny M A (call (.builtin "object.__ne__") ([.ref x] ++ args) >>= fun v => pure (some v)) Q E s := wpAny_bind (wpAny_mono h (fun v s' h' => wpAny_pure h') fun _ _ h' => h')
  split
  · exact wpAny_bind (wpAny_of_eq (F.cmp_object.ne.bind _) (wpAny_pure (by exact fin)))
  · exact wpAny_tryCatch (wpAny_bind (wpAny_of_eq (F.cmp_object.ne.bind _) (wpAny_pure (by exact fin))))
theorem notTup (I : PySem.W.InstAt s.heap x ox C od) : ox.cls ≠ .type "tuple" := by rw [I.cls]; intro e; cases e
theorem call_oeqS (X : K.In s.heap) (I : PySem.W.InstAt s.heap x ox C od) (hm : PySem.W.mroIn K C (.type "object") = some true) {Q : Value → Shared → Prop} (hq : Q (.bool true) s) :
    wpAny (model prog w) A (call (.builtin "object.__eq__") [.ref x, .ref x]) Q E s :=
  wpAny_call (codeAny_call_builtin F.cmp_object.eq.plain F.cmpEntry_eq (PySem.W.check_slot F.cmpKind_eq F.cmpSplit_eq (I.type.andThen (PySem.W.looks_mroIn X hm)) (F.cmpArgs_eq _ _) (objEq_entry_same hq)))
theorem call_oeqO (X : K.In s.heap) (I : PySem.W.InstAt s.heap x ox C od) (J : PySem.W.InstAt s.heap y oy C od') (hm : PySem.W.mroIn K C (.type "object") = some true) (hxy : x ≠ y) {Q : Value → Shared → Prop} (hq : Q .notImplemented s) :
    wpAny (model prog w) A (call (.builtin "object.__eq__") [.ref x, .ref y]) Q E s :=
  wpAny_call (codeAny_call_builtin F.cmp_object.eq.plain F.cmpEntry_eq (PySem.W.check_slot F.cmpKind_eq F.cmpSplit_eq (I.type.andThen (PySem.W.looks_mroIn X hm)) (F.cmpArgs_eq _ _) (objEq_entry_other hxy I.at_ J.at_ (notTup I) hq)))
theorem bound_eqS (X : K.In s.heap) (I : PySem.W.InstAt s.heap x ox C od) (O : ObjEq K C) {Q : Option Value → Shared → Prop} (hq : Q (some (.bool true)) s) :
    wpAny (model prog w) A (callSpecialIfBound? (.ref x) "__eq__" [.ref x]) Q E s := HN.ifBound_objEq X I O.eq (call_oeqS X I O.top hq)
theorem bound_eqO (X : K.In s.heap) (I : PySem.W.InstAt s.heap x ox C od) (J : PySem.W.InstAt s.heap y oy C od') (O : ObjEq K C) (hxy : x ≠ y) {Q : Option Value → Shared → Prop} (hq : Q (some .notImplemented) s) :
    wpAny (model prog w) A (callSpecialIfBound? (.ref x) "__eq__" [.ref y]) Q E s := HN.ifBound_objEq X I O.eq (call_oeqO X I J O.top hxy hq)
/-- the frame of a rich comparison of two of one class: the left one's own answers first -/
theorem rc_one {op : CmpOp} {Q : Value → Shared → Prop} (hu : A.units < cLine) (I : PySem.W.InstAt s.heap x ox C od) (J : PySem.W.InstAt s.heap y oy C od')
    (h : wpAny (model prog w) A (callSpecialIfBound? (.ref x) (cmpInfo op).2.1 [.ref y]) (fun v s' => ∃ b, v = some (.bool b) ∧ Q (.bool b) s') E s) : wpAny (model prog w) A (richCompare op (.ref x) (.ref y)) Q E s := by
  unfold richCompare
  simp only [oneThing_ref]
  refine wpAny_holding (wpAny_bind (wpAny_cRoomFor hu ?_))
  refine wpAny_bind (I.type.here (wpAny_bind (J.type.here ?_)))
  rw [show (Value.ref C != Value.ref C) = false from by simp]
  simp only [Bool.false_eq_true, if_false]
  refine wpAny_bind (wpAny_pure ?_)
  simp only [Bool.false_eq_true, if_false]
  refine wpAny_bind ?_
  unfold tryCompare
  refine wpAny_bind (wpAny_mono h (fun v s' z => ?_) fun _ _ e => e)
  obtain ⟨b, rfl, q⟩ := z
  exact wpAny_pure (wpAny_pure q)
/-- and where both decline, the two are one or not -/
theorem rc_two {op : CmpOp} {v : Bool} (hop : op = .Eq ∧ v = false ∨ op = .NotEq ∧ v = true) {Q : Value → Shared → Prop} (hu : A.units < cLine) (I : PySem.W.InstAt s.heap x ox C od) (J : PySem.W.InstAt s.heap y oy C od') (hxy : x ≠ y)
    (h1 : wpAny (model prog w) A (callSpecialIfBound? (.ref x) (cmpInfo op).2.1 [.ref y]) (fun v s' => v = some .notImplemented ∧ s' = s) E s)
    (h2 : wpAny (model prog w) A (callSpecialIfBound? (.ref y) (cmpInfo op).2.1 [.ref x]) (fun v s' => v = some .notImplemented ∧ s' = s) E s) (hq : Q (.bool v) s) : wpAny (model prog w) A (richCompare op (.ref x) (.ref y)) Q E s := by
  have one : wpAny (model prog w) A (tryCompare (.ref x) (cmpInfo op).2.1 (.ref y)) (fun r s' => r = none ∧ s' = s) E s := by
    unfold tryCompare
    refine wpAny_bind (wpAny_mono h1 (fun v s' z => ?_) fun _ _ e => e)
    obtain ⟨rfl, rfl⟩ := z
    exact wpAny_pure ⟨rfl, rfl⟩
  have two : wpAny (model prog w) A (tryCompare (.ref y) (cmpInfo op).2.1 (.ref x)) (fun r s' => r = none ∧ s' = s) E s := by
    unfold tryCompare
    refine wpAny_bind (wpAny_mono h2 (fun v s' z => ?_) fun _ _ e => e)
    obtain ⟨rfl, rfl⟩ := z
    exact wpAny_pure ⟨rfl, rfl⟩
  rcases hop with ⟨rfl, rfl⟩ | ⟨rfl, rfl⟩
  · simp only [richCompare, cmpInfo_Eq, oneThing_ref]
    refine wpAny_holding (wpAny_bind (wpAny_cRoomFor hu ?_))
    refine wpAny_bind (I.type.here (wpAny_bind (J.type.here ?_)))
    rw [show (Value.ref C != Value.ref C) = false from by simp]
    simp only [Bool.false_eq_true, if_false]
    refine wpAny_bind (wpAny_pure ?_)
    simp only [Bool.false_eq_true, if_false, Bool.not_false, if_true]
    refine wpAny_bind (m := tryCompare (.ref x) _ (.ref y)) (wpAny_mono one (fun r s1 z => ?_) fun _ _ e => e)
    obtain ⟨rfl, rfl⟩ := z
    refine wpAny_bind (m := tryCompare (.ref y) _ (.ref x)) (wpAny_mono two (fun r s2 z => ?_) fun _ _ e => e)
    obtain ⟨rfl, rfl⟩ := z
    exact wpAny_bind (wpAny_rule (wpAny_bind (wpAny_isSame_ref_other hxy I.at_ J.at_ (notTup I) (wpAny_pure hq))))
  · simp only [richCompare, cmpInfo_NotEq, oneThing_ref]
    refine wpAny_holding (wpAny_bind (wpAny_cRoomFor hu ?_))
    refine wpAny_bind (I.type.here (wpAny_bind (J.type.here ?_)))
    rw [show (Value.ref C != Value.ref C) = false from by simp]
    simp only [Bool.false_eq_true, if_false]
    refine wpAny_bind (wpAny_pure ?_)
    simp only [Bool.false_eq_true, if_false, Bool.not_false, if_true]
    refine wpAny_bind (m := tryCompare (.ref x) _ (.ref y)) (wpAny_mono one (fun r s1 z => ?_) fun _ _ e => e)
    obtain ⟨rfl, rfl⟩ := z
    refine wpAny_bind (m := tryCompare (.ref y) _ (.ref x)) (wpAny_mono two (fun r s2 z => ?_) fun _ _ e => e)
    obtain ⟨rfl, rfl⟩ := z
    exact wpAny_bind (wpAny_rule (wpAny_bind (wpAny_isSame_ref_other hxy I.at_ J.at_ (notTup I) (wpAny_pure hq))))
theorem ne_entS (X : K.In s.heap) (I : PySem.W.InstAt s.heap x ox C od) (O : ObjEq K C) (hu : A.units < cLine) {Q : Fin → Shared → Prop} (hq : Q (.done (.ret (.bool false))) s) :
    wpAny (model prog w) A (Builtin.«object.__ne__» ⟨[.ref x, .ref x], []⟩) Q E s := by
  unfold Builtin.«object.__ne__»
  repeat (first | with_reducible refine wpAny_cRoomFor hu ?_ | with_reducible refine bound_eqS X I O ?_ | wp_step)
  exact hq
theorem ne_entO (X : K.In s.heap) (I : PySem.W.InstAt s.heap x ox C od) (J : PySem.W.InstAt s.heap y oy C od') (O : ObjEq K C) (hxy : x ≠ y) (hu : A.units < cLine) {Q : Fin → Shared → Prop} (hq : Q (.done (.ret .notImplemented)) s) :
    wpAny (model prog w) A (Builtin.«object.__ne__» ⟨[.ref x, .ref y], []⟩) Q E s := by
  unfold Builtin.«object.__ne__»
  repeat (first | with_reducible refine wpAny_cRoomFor hu ?_ | with_reducible refine bound_eqO X I J O hxy ?_ | wp_step)
  exact hq
theorem bound_neS (X : K.In s.heap) (I : PySem.W.InstAt s.heap x ox C od) (O : ObjEq K C) (hu : A.units + 1 < cLine) {Q : Option Value → Shared → Prop} (hq : Q (some (.bool false)) s) :
    wpAny (model prog w) A (callSpecialIfBound? (.ref x) "__ne__" [.ref x]) Q E s :=
  ifBound_objNe X I O.ne (wpAny_call (codeAny_call_builtin F.cmp_object.ne.plain F.cmpEntry_ne (PySem.W.check_slot F.cmpKind_ne F.cmpSplit_ne (I.type.andThen (PySem.W.looks_mroIn X O.top)) (F.cmpArgs_ne _ _) (ne_entS (A := A.in1) X I O hu hq))))
theorem bound_neO (X : K.In s.heap) (I : PySem.W.InstAt s.heap x ox C od) (J : PySem.W.InstAt s.heap y oy C od') (O : ObjEq K C) (hxy : x ≠ y) (hu : A.units + 1 < cLine) {Q : Option Value → Shared → Prop} (hq : Q (some .notImplemented) s) :
    wpAny (model prog w) A (callSpecialIfBound? (.ref x) "__ne__" [.ref y]) Q E s :=
  ifBound_objNe X I O.ne (wpAny_call (codeAny_call_builtin F.cmp_object.ne.plain F.cmpEntry_ne (PySem.W.check_slot F.cmpKind_ne F.cmpSplit_ne (I.type.andThen (PySem.W.looks_mroIn X O.top)) (F.cmpArgs_ne _ _) (ne_entO (A := A.in1) X I J O hxy hu hq))))
theorem oeq_run (X : K.In s.heap) (I : PySem.W.InstAt s.heap x ox C od) (J : PySem.W.InstAt s.heap y oy C od') (O : ObjEq K C) (hu : A.units + 1 < cLine) {Q : Value → Shared → Prop} (hq : Q (.bool (decide (x = y))) s) :
    wpAny (model prog w) A (compareOp .Eq (.ref x) (.ref y)) Q E s := by
  show wpAny (model prog w) A (richCompare .Eq (.ref x) (.ref y)) Q E s
  by_cases e : x = y
  · subst e
    exact rc_one (Nat.lt_of_succ_lt hu) I J (bound_eqS X I O ⟨_, rfl, by simpa using hq⟩)
  · exact rc_two (v := false) (.inl ⟨rfl, rfl⟩) (Nat.lt_of_succ_lt hu) I J e (bound_eqO X I J O e ⟨rfl, rfl⟩) (bound_eqO X J I O (Ne.symm e) ⟨rfl, rfl⟩) (by simpa [e] using hq)
theorem one_run (X : K.In s.heap) (I : PySem.W.InstAt s.heap x ox C od) (J : PySem.W.InstAt s.heap y oy C od') (O : ObjEq K C) (hu : A.units + 1 < cLine) {Q : Value → Shared → Prop} (hq : Q (.bool (!decide (x = y))) s) :
    wpAny (model prog w) A (compareOp .NotEq (.ref x) (.ref y)) Q E s := by
  show wpAny (model prog w) A (richCompare .NotEq (.ref x) (.ref y)) Q E s
  by_cases e : x = y
  · subst e
    exact rc_one (Nat.lt_of_succ_lt hu) I J (bound_neS X I O hu ⟨_, rfl, by simpa using hq⟩)
  · exact rc_two (v := true) (.inr ⟨rfl, rfl⟩) (Nat.lt_of_succ_lt hu) I J e (bound_neO X I J O e hu ⟨rfl, rfl⟩) (bound_neO X J I O (Ne.symm e) hu ⟨rfl, rfl⟩) (by simpa [e] using hq)
/-- a class with an own __eq__ alone -/
structure OwnEq1 (K : PySem.W.Frag) (C f : Addr) : Prop where
  top : PySem.W.mroIn K C (.type "object") = some true
  eq : PySem.W.findIn K (.ref C) "__eq__" = some (some (.ref f))
  fn : PySem.W.isFn K (.ref f) = true
  ne : PySem.W.findIn K (.ref C) "__ne__" = some (some (.builtin "object.__ne__"))
theorem own_eq (X : K.In s.heap) (I : PySem.W.InstAt s.heap x ox C od) (J : PySem.W.InstAt s.heap y oy C od') (O : OwnEq1 K C f) (hu : A.units + 1 < cLine) {Q : Value → Shared → Prop}
    (h : wpAny (model prog w) A (call (.ref f) [.ref x, .ref y]) (fun v s' => ∃ b, v = .bool b ∧ Q (.bool b) s') E s) : wpAny (model prog w) A (compareOp .Eq (.ref x) (.ref y)) Q E s :=
  show wpAny (model prog w) A (richCompare .Eq (.ref x) (.ref y)) Q E s from
  rc_one (Nat.lt_of_succ_lt hu) I J (PySem.W.ifBound_K X I O.eq O.fn (wpAny_mono h (fun v s' ⟨b, e, q⟩ => ⟨b, by rw [e], q⟩) fun _ _ e => e))
theorem own_ne (X : K.In s.heap) (I : PySem.W.InstAt s.heap x ox C od) (J : PySem.W.InstAt s.heap y oy C od') (O : OwnEq1 K C f) (hu : A.units + 1 < cLine) {Q : Value → Shared → Prop}
    (h : wpAny (model prog w) A.in1 (call (.ref f) [.ref x, .ref y]) (fun v s' => ∃ b, v = .bool b ∧ Q (.bool (!b)) s') E s) : wpAny (model prog w) A (compareOp .NotEq (.ref x) (.ref y)) Q E s := by
  show wpAny (model prog w) A (richCompare .NotEq (.ref x) (.ref y)) Q E s
  refine rc_one (Nat.lt_of_succ_lt hu) I J (ifBound_objNe X I O.ne (wpAny_call (codeAny_call_builtin F.cmp_object.ne.plain F.cmpEntry_ne (PySem.W.check_slot F.cmpKind_ne F.cmpSplit_ne (I.type.andThen (PySem.W.looks_mroIn X O.top)) (F.cmpArgs_ne _ _) ?_))))
  unfold Builtin.«object.__ne__»
  repeat (first
    | with_reducible refine wpAny_cRoomFor hu ?_
    | (refine wpAny_bind (m := callSpecialIfBound? (.ref x) (Str.ofString "__eq__") [.ref y])
        (PySem.W.ifBound_K X I O.eq O.fn (wpAny_mono h (fun r s' hr => by
          obtain ⟨b, rfl, hq⟩ := hr
          repeat (first | exact ⟨_, rfl, hq⟩ | exact wpAny_pure ⟨_, rfl, hq⟩ | exact wpAny_truthy_bool ⟨_, rfl, hq⟩ | (refine wpAny_bind (m := truthy (.bool _)) (wpAny_truthy_bool ?_)) | wp_step)) fun _ _ e => e)))
    | wp_step)
end
section
variable {X : Cx} {K : PySem.W.Frag} {H H0 H1 H' : Hp} {μ μ0 μ1 μ' : Mu} {h h1 : CH}
theorem op_cmpO {ob : List Addr} {neg : Bool} (hu : X.A.units + 65 < cLine) (ho : ∀ C, C ∈ ob → ObjEq X.K C) {op : CmpOp} (hop : op = .Eq ∧ neg = false ∨ op = .NotEq ∧ neg = true) : OpR X (compareOp op) (rS X.K (eqOR ob neg)) := by
  intro pins s σ H x y v u Q I rx ry q
  obtain ⟨h, μ, a, b, k, rel, ra, rb, w, ps⟩ := q
  have dat : ∀ {a b : CR}, RX X.K H μ a x → RX X.K H μ b y → eqR a b h (fun c => k (.v (.bl (neg ^^ c))) h) → wpAny (model X.prog X.w) X.A (compareOp op v u) (EP X pins σ Q) X.xe s := fun ra rb w => by
    refine op_cmp hu op pins s σ H x y v u Q I rx ry ⟨h, μ, _, _, k, rel, ra, rb, ?_, ps⟩
    rcases hop with ⟨rfl, rfl⟩ | ⟨rfl, rfl⟩
    · simpa [cmpR] using w
    · simpa [cmpR] using w
  unfold eqOR at w
  split at w
  · rename_i i j
    split at w
    · rename_i C fs D gs q1 q2
      obtain ⟨⟨rfl, hc⟩, w⟩ := w
      cases ra with
      | ref ha =>
      cases rb with
      | ref hb =>
      rename_i pa pb
      obtain ⟨oa, ha', ro⟩ := rel.at ha
      obtain ⟨o2, hb', ro2⟩ := rel.at hb
      rw [q1] at ha'
      rw [q2] at hb'
      cases ha'
      cases hb'
      obtain ⟨dx, f, hpa, _⟩ := ro
      obtain ⟨dx2, f2, hpb, _⟩ := ro2
      have ed : decide (pa = pb) = decide (i = j) := by
        by_cases e : i = j
        · subst e
          rw [ha] at hb; cases hb
          simp
        · have : pa ≠ pb := fun z => by
            subst z
            obtain ⟨h1, e1⟩ := List.getElem?_eq_some_iff.mp ha
            obtain ⟨h2, e2⟩ := List.getElem?_eq_some_iff.mp hb
            exact e ((List.getElem_inj rel.nd).mp (e1.trans e2.symm))
          simp [e, this]
      cases rx
      cases ry
      obtain ⟨mA, O1, _⟩ := ins_get I.hok hpa
      obtain ⟨od, IA, _⟩ := O1.look
      obtain ⟨mB, O2, _⟩ := ins_get I.hok hpb
      obtain ⟨od', IB, _⟩ := O2.look
      rcases hop with ⟨rfl, rfl⟩ | ⟨rfl, rfl⟩
      · exact oeq_run I.kIn IA IB (ho _ hc) (by omega) ⟨.bl _, H, I, rfl, by rw [ed]; simpa using ps.bl w rel⟩
      · exact one_run I.kIn IA IB (ho _ hc) (by omega) ⟨.bl _, H, I, rfl, by rw [ed]; simpa using ps.bl w rel⟩
    · exact dat ra rb w
  · exact dat ra rb w
theorem s_cmpO {a b : Expr} {op : CmpOp} {neg : Bool} {ob : List Addr} {pos : Pos} {ia ib : CE} (hu : X.A.units + 65 < cLine) (ho : ∀ C, C ∈ ob → ObjEq X.K C) (hop : op = .Eq ∧ neg = false ∨ op = .NotEq ∧ neg = true) (ha : PE X a (tE X.K (wE ia))) (hb : PE X b (tE X.K (wE ib)))
    (hm : behindInMarks op b = false) : PE X (.Compare a [op] [b] pos) (tE X.K (wE (.cmpO ob neg ia ib))) :=
  PE.imp (pe_cmpR (op_cmpO hu ho hop) ha hb hm) fun σ H Q w => two w
theorem eqR_imp {x y : CR} {k k' : Bool → Prop} (w : eqR x y h k) (i : ∀ b, k b → k' b) : eqR x y h k' := by
  unfold eqR at w ⊢
  split at w
  · exact ⟨w.1, i _ w.2⟩
  · exact w.elim
theorem eqOR_strong {ob : List Addr} {neg : Bool} {a b : CR} {k : WQ} (w : eqOR ob neg a b h k) : eqOR ob neg a b h fun r h1 => (∃ d, r = .v (.bl d)) ∧ k r h1 := by
  unfold eqOR at w ⊢
  split at w
  · split at w
    · exact ⟨w.1, ⟨_, rfl⟩, w.2⟩
    · exact eqR_imp w fun b z => ⟨⟨_, rfl⟩, z⟩
  · exact eqR_imp w fun b z => ⟨⟨_, rfl⟩, z⟩
theorem t_cmpO {a b : Expr} {op : CmpOp} {neg : Bool} {ob : List Addr} {pos : Pos} {ia ib : CE} (hu : X.A.units + 65 < cLine) (ho : ∀ C, C ∈ ob → ObjEq X.K C) (hop : op = .Eq ∧ neg = false ∨ op = .NotEq ∧ neg = true) (ha : PE X a (tE X.K (wE ia))) (hb : PE X b (tE X.K (wE ib)))
    (hm : behindInMarks op b = false) : PT X (.Compare a [op] [b] pos) (tB X.K (wB (.val (.cmpO ob neg ia ib)))) :=
  PT.imp (pt_cmpR (op_cmpO hu ho hop) ha hb hm) fun σ H Q ⟨c, h, μ, k, E, rs, rel, w, hE, ps⟩ => by
    refine ⟨c, h, μ, _, E, rs, rel, w, hE, fun r1 h1 w1 μ1 H1 x e1 rel1 rr1 => ?_⟩
    refine ⟨c, h1, μ1, _, E, rs.ext e1, rel1, w1, hE, fun r2 h2 w2 μ2 H2 y e2 rel2 rr2 => ?_⟩
    refine ⟨h2, μ2, r1, r2, _, rel2, rr1.rx.ext e2, rr2.rx, eqOR_strong w2, fun r3 h3 w3 μ3 H3 z e3 rel3 rr3 => ?_⟩
    obtain ⟨⟨d, rfl⟩, w3⟩ := w3
    obtain ⟨_, q1, w3⟩ := oP_of w3
    cases q1
    exact ⟨d, rx_bl rr3.rx, ps _ _ w3 μ3 H3 (e1.trans (e2.trans e3)) rel3⟩
/-! ### by the class's own __eq__ -/
structure EOk (X : Cx) (C : Addr) (sp : Spec) (n : Nat) (ds : List CV) : Prop where
  ex : ∃ (f : Addr) (fd : FuncData) (k : Nat) (ps : List Str) (dvs : List V) (dus : List Value), OwnEq1 X.K C f ∧ FnOk X.prog X.w X.K X.mg X.base CX0 k f fd ps (simSp X.K n sp) ∧ Room (k + 1) X.A ∧ Binds X.K fd ps dus ∧ Vals dvs dus ∧ DV X.K ds dvs
theorem run_at {CX : CXT} {k : Nat} {f : Addr} {fd : FuncData} {ps : List Str} {ds : List Value} {dvs : List V} {sp : Sp} {pins : List (Addr × Obj)} {σ : L2.St} {H : Hp} {s : Shared} {Q : VK} {E : XK} {us : List Value} {vs : List V} (F : FnOk X.prog X.w X.K X.mg X.base CX k f fd ps sp) (hr : Room (k + 1) X.A) (hb : Binds X.K fd ps ds) (hd : Vals dvs ds) (hx : Passes CX X E)
    (I : Inv X pins σ H s) (r : Vals vs us) (h : sp (vs ++ dvs) H Q E) : wpAny (model X.prog X.w) X.A (call (.ref f) us) (EP X pins σ Q) X.xe s := by
  have r2 := r.append hd
  have hl : (us ++ ds).length = ps.length := by rw [← r2.length]; exact F.len _ _ _ _ h
  refine wpAny_call (codeAny_mono (F.run X.A X.stack s H ⟨us, []⟩ (us ++ ds) (vs ++ dvs) Q E (hr.mono (Nat.le_succ k)) I.env0 (hb s us I.kIn hl) r2 h) fun r s' hq => ?_)
  cases r with
  | error e => exact hx pins σ H s e s' I hq
  | ok fl => cases fl <;> first | exact I.after hq | exact False.elim hq
theorem insC_rv {a : CR} {x : V} {C : Addr} {cv : CV} (rel : Rel K μ h H) (ra : RX K H μ a x) (e : insC a h = some (C, cv)) : ∃ q dx vs, x = .ref q ∧ RV K H μ cv (.ref q) ∧ H q = some (.ins C dx vs) := by
  unfold insC at e
  split at e
  · cases e
    cases (show RV K H μ (.obj _ _ _) x from ra) with
    | obj z hp hl r => exact ⟨_, _, _, rfl, .obj z hp hl r, hp⟩
  · rename_i a
    split at e
    · rename_i C2 fs ha
      cases e
      cases (show RV K H μ (.ref a) x from ra) with
      | ref hx =>
      obtain ⟨dx, vs, hp, _⟩ := rel.ob a _ _ ha hx
      exact ⟨_, _, _, rfl, .ref hx, hp⟩
    · cases e
  · cases e
def rI (X : Cx) (tb : List (Addr × Spec × Nat × List CV)) (neg : Bool) : V → V → Hp → VK → Prop := fun x y H Q => ∃ h μ a b k E, Rel X.K μ h H ∧ RX X.K H μ a x ∧ RX X.K H μ b y ∧ eqIR tb neg a b h k E ∧ (∀ x h', ¬ E x h') ∧ Post X.K H μ k Q
theorem op_cmpI {tb : List (Addr × Spec × Nat × List CV)} {neg : Bool} (hu : X.A.units + 65 < cLine) (ht : ∀ C sp n ds, look tb C = some (sp, n, ds) → EOk X C sp n ds) {op : CmpOp} (hop : op = .Eq ∧ neg = false ∨ op = .NotEq ∧ neg = true) : OpR X (compareOp op) (rI X tb neg) := by
  intro pins s σ H x y v u Q I rx ry q
  obtain ⟨h, μ, a, b, k, E, rel, ra, rb, w, hE, ps⟩ := q
  unfold eqIR at w
  split at w
  · rename_i C cv D cu q1 q2
    obtain ⟨rfl, w⟩ := w
    obtain ⟨⟨sp, n, ds⟩, hl, hn, w⟩ := oP_of w
    obtain ⟨pa, dx, vs, rfl, ra, hpa⟩ := insC_rv rel ra q1
    obtain ⟨pb, dy, us, rfl, rb, hpb⟩ := insC_rv rel rb q2
    cases rx
    cases ry
    obtain ⟨mA, O1, _⟩ := ins_get I.hok hpa
    obtain ⟨od, IA, _⟩ := O1.look
    obtain ⟨mB, O2, _⟩ := ins_get I.hok hpb
    obtain ⟨od', IB, _⟩ := O2.look
    obtain ⟨f, fd, j, pss, dvs, dus, M, F, hr, hb, hv, hd⟩ := (ht C sp n ds hl).ex
    have main : simSp X.K n sp ([.ref pa, .ref pb] ++ dvs) H (fun v H2 => ∃ c, v = .bl c ∧ Q (.bl (neg ^^ c)) H2) E0 := by
      refine ⟨[cv, cu] ++ ds, h, μ, _, E, hn, rel, .cons ra (.cons rb (hd _ _)), w, hE, fun r2 h2 w2 μ2 H2 y e2 rel2 rr2 => ?_⟩
      obtain ⟨c, rfl, w2⟩ := inB_of w2
      exact ⟨c, rx_bl rr2.rx, (ps.on e2 rel2).bl w2 rel2⟩
    rcases hop with ⟨rfl, rfl⟩ | ⟨rfl, rfl⟩
    · refine own_eq I.kIn IA IB M (by omega) (wpAny_mono (run_at (us := [.ref pa, .ref pb]) (vs := [.ref pa, .ref pb]) F hr hb hv (E := E0) pass0 I (.cons rfl (.cons rfl .nil)) main) (fun v s2 hv => ?_) fun _ _ y => y)
      obtain ⟨y, H2, I2, ry, c, rfl, q2⟩ := hv
      cases ry
      exact ⟨c, rfl, .bl _, H2, I2, rfl, by simpa using q2⟩
    · refine own_ne I.kIn IA IB M (by omega) (wpAny_mono (run_in (us := [.ref pa, .ref pb]) (vs := [.ref pa, .ref pb]) F hr hb hv (E := E0) pass0 I (.cons rfl (.cons rfl .nil)) main) (fun v s2 hv => ?_) fun _ _ y => y)
      obtain ⟨y, H2, I2, ry, c, rfl, q2⟩ := hv
      cases ry
      exact ⟨c, rfl, .bl _, H2, I2, rfl, by simpa using q2⟩
  · refine op_cmp hu op pins s σ H x y v u Q I rx ry ⟨h, μ, _, _, k, rel, ra, rb, ?_, ps⟩
    rcases hop with ⟨rfl, rfl⟩ | ⟨rfl, rfl⟩
    · simpa [cmpR] using w
    · simpa [cmpR] using w
theorem s_cmpI {a b : Expr} {op : CmpOp} {neg : Bool} {tb : List (Addr × Spec × Nat × List CV)} {pos : Pos} {ia ib : CE} (hu : X.A.units + 65 < cLine) (ht : ∀ C sp n ds, look tb C = some (sp, n, ds) → EOk X C sp n ds) (hop : op = .Eq ∧ neg = false ∨ op = .NotEq ∧ neg = true)
    (ha : PE X a (tE X.K (wE ia))) (hb : PE X b (tE X.K (wE ib))) (hm : behindInMarks op b = false) : PE X (.Compare a [op] [b] pos) (tE X.K (wE (.cmpI tb neg ia ib))) :=
  PE.imp (pe_cmpR (op_cmpI hu ht hop) ha hb hm) fun σ H Q ⟨c, h, μ, k, E, rs, rel, w, hE, ps⟩ => by
    refine ⟨c, h, μ, _, E, rs, rel, w, hE, fun r1 h1 w1 μ1 H1 x e1 rel1 rr1 => ?_⟩
    refine ⟨c, h1, μ1, _, E, rs.ext e1, rel1, w1, hE, fun r2 h2 w2 μ2 H2 y e2 rel2 rr2 => ?_⟩
    exact ⟨h2, μ2, r1, r2, k, E, rel2, rr1.rx.ext e2, rr2.rx, w2, hE, ps.on (e1.trans e2) rel2⟩
theorem inB_strong (neg : Bool) (k : WQ) : (fun (r : CR) (h1 : CH) => inB r fun b => (fun r h1 => (∃ d, r = CR.v (.bl d)) ∧ k r h1) (.v (.bl (neg ^^ b))) h1) = fun r h1 => inB r fun b => k (.v (.bl (neg ^^ b))) h1 := by
  funext r h1
  apply propext
  constructor
  · intro w
    obtain ⟨b, rfl, _, w⟩ := inB_of w
    exact w
  · intro w
    obtain ⟨b, rfl, w⟩ := inB_of w
    exact ⟨⟨_, rfl⟩, w⟩
theorem eqIR_strong {tb : List (Addr × Spec × Nat × List CV)} {neg : Bool} {a b : CR} {k : WQ} {E : WX'} (w : eqIR tb neg a b h k E) : eqIR tb neg a b h (fun r h1 => (∃ d, r = .v (.bl d)) ∧ k r h1) E := by
  unfold eqIR at w ⊢
  split at w
  · refine ⟨w.1, ?_⟩
    have w2 := w.2
    rw [inB_strong]
    exact w2
  · exact eqR_imp w fun b z => ⟨⟨_, rfl⟩, z⟩
theorem t_cmpI {a b : Expr} {op : CmpOp} {neg : Bool} {tb : List (Addr × Spec × Nat × List CV)} {pos : Pos} {ia ib : CE} (hu : X.A.units + 65 < cLine) (ht : ∀ C sp n ds, look tb C = some (sp, n, ds) → EOk X C sp n ds) (hop : op = .Eq ∧ neg = false ∨ op = .NotEq ∧ neg = true)
    (ha : PE X a (tE X.K (wE ia))) (hb : PE X b (tE X.K (wE ib))) (hm : behindInMarks op b = false) : PT X (.Compare a [op] [b] pos) (tB X.K (wB (.val (.cmpI tb neg ia ib)))) :=
  PT.imp (pt_cmpR (op_cmpI hu ht hop) ha hb hm) fun σ H Q ⟨c, h, μ, k, E, rs, rel, w, hE, ps⟩ => by
    refine ⟨c, h, μ, _, E, rs, rel, w, hE, fun r1 h1 w1 μ1 H1 x e1 rel1 rr1 => ?_⟩
    refine ⟨c, h1, μ1, _, E, rs.ext e1, rel1, w1, hE, fun r2 h2 w2 μ2 H2 y e2 rel2 rr2 => ?_⟩
    refine ⟨h2, μ2, r1, r2, _, E, rel2, rr1.rx.ext e2, rr2.rx, eqIR_strong w2, hE, fun r3 h3 w3 μ3 H3 z e3 rel3 rr3 => ?_⟩
    obtain ⟨⟨d, rfl⟩, w3⟩ := w3
    obtain ⟨_, q1, w3⟩ := oP_of w3
    cases q1
    exact ⟨d, rx_bl rr3.rx, ps _ _ w3 μ3 H3 (e1.trans (e2.trans e3)) rel3⟩
/-! ### the one way or the other -/
def rM (X : Cx) (ob : List Addr) (tb : List (Addr × Spec × Nat × List CV)) (neg : Bool) : V → V → Hp → VK → Prop := fun x y H Q => ∃ h μ a b k E, Rel X.K μ h H ∧ RX X.K H μ a x ∧ RX X.K H μ b y ∧ eqMR ob tb neg a b h k E ∧ (∀ x h', ¬ E x h') ∧ Post X.K H μ k Q
theorem op_cmpM {ob : List Addr} {tb : List (Addr × Spec × Nat × List CV)} {neg : Bool} (hu : X.A.units + 65 < cLine) (ho : ∀ C, C ∈ ob → ObjEq X.K C) (ht : ∀ C sp n ds, look tb C = some (sp, n, ds) → EOk X C sp n ds) {op : CmpOp} (hop : op = .Eq ∧ neg = false ∨ op = .NotEq ∧ neg = true) : OpR X (compareOp op) (rM X ob tb neg) := by
  intro pins s σ H x y v u Q I rx ry q
  obtain ⟨h, μ, a, b, k, E, rel, ra, rb, w, hE, ps⟩ := q
  rcases w with w | w
  · exact op_cmpO hu ho hop pins s σ H x y v u Q I rx ry ⟨h, μ, a, b, k, rel, ra, rb, w, ps⟩
  · exact op_cmpI hu ht hop pins s σ H x y v u Q I rx ry ⟨h, μ, a, b, k, E, rel, ra, rb, w, hE, ps⟩
theorem s_cmpM {a b : Expr} {op : CmpOp} {neg : Bool} {ob : List Addr} {tb : List (Addr × Spec × Nat × List CV)} {pos : Pos} {ia ib : CE} (hu : X.A.units + 65 < cLine) (ho : ∀ C, C ∈ ob → ObjEq X.K C) (ht : ∀ C sp n ds, look tb C = some (sp, n, ds) → EOk X C sp n ds) (hop : op = .Eq ∧ neg = false ∨ op = .NotEq ∧ neg = true)
    (ha : PE X a (tE X.K (wE ia))) (hb : PE X b (tE X.K (wE ib))) (hm : behindInMarks op b = false) : PE X (.Compare a [op] [b] pos) (tE X.K (wE (.cmpM ob tb neg ia ib))) :=
  PE.imp (pe_cmpR (op_cmpM hu ho ht hop) ha hb hm) fun σ H Q ⟨c, h, μ, k, E, rs, rel, w, hE, ps⟩ => by
    refine ⟨c, h, μ, _, E, rs, rel, w, hE, fun r1 h1 w1 μ1 H1 x e1 rel1 rr1 => ?_⟩
    refine ⟨c, h1, μ1, _, E, rs.ext e1, rel1, w1, hE, fun r2 h2 w2 μ2 H2 y e2 rel2 rr2 => ?_⟩
    exact ⟨h2, μ2, r1, r2, k, E, rel2, rr1.rx.ext e2, rr2.rx, w2, hE, ps.on (e1.trans e2) rel2⟩
theorem eqMR_strong {ob : List Addr} {tb : List (Addr × Spec × Nat × List CV)} {neg : Bool} {a b : CR} {k : WQ} {E : WX'} (w : eqMR ob tb neg a b h k E) : eqMR ob tb neg a b h (fun r h1 => (∃ d, r = .v (.bl d)) ∧ k r h1) E := by
  rcases w with w | w
  · exact .inl (eqOR_strong w)
  · exact .inr (eqIR_strong w)
theorem t_cmpM {a b : Expr} {op : CmpOp} {neg : Bool} {ob : List Addr} {tb : List (Addr × Spec × Nat × List CV)} {pos : Pos} {ia ib : CE} (hu : X.A.units + 65 < cLine) (ho : ∀ C, C ∈ ob → ObjEq X.K C) (ht : ∀ C sp n ds, look tb C = some (sp, n, ds) → EOk X C sp n ds) (hop : op = .Eq ∧ neg = false ∨ op = .NotEq ∧ neg = true)
    (ha : PE X a (tE X.K (wE ia))) (hb : PE X b (tE X.K (wE ib))) (hm : behindInMarks op b = false) : PT X (.Compare a [op] [b] pos) (tB X.K (wB (.val (.cmpM ob tb neg ia ib)))) :=
  PT.imp (pt_cmpR (op_cmpM hu ho ht hop) ha hb hm) fun σ H Q ⟨c, h, μ, k, E, rs, rel, w, hE, ps⟩ => by
    refine ⟨c, h, μ, _, E, rs, rel, w, hE, fun r1 h1 w1 μ1 H1 x e1 rel1 rr1 => ?_⟩
    refine ⟨c, h1, μ1, _, E, rs.ext e1, rel1, w1, hE, fun r2 h2 w2 μ2 H2 y e2 rel2 rr2 => ?_⟩
    refine ⟨h2, μ2, r1, r2, _, E, rel2, rr1.rx.ext e2, rr2.rx, eqMR_strong w2, hE, fun r3 h3 w3 μ3 H3 z e3 rel3 rr3 => ?_⟩
    obtain ⟨⟨d, rfl⟩, w3⟩ := w3
    obtain ⟨_, q1, w3⟩ := oP_of w3
    cases q1
    exact ⟨d, rx_bl rr3.rx, ps _ _ w3 μ3 H3 (e1.trans (e2.trans e3)) rel3⟩
end
section
variable {h : CH} {Q : WQ} {E : WX'} {neg : Bool} {ob : List Addr} {tb : List (Addr × Spec × Nat × List CV)}
theorem eqO_ins {a b : Nat} {C : Addr} {fs gs : List (Str × CV)} (ha : h[a]? = some (.ins C fs)) (hb : h[b]? = some (.ins C gs)) (hc : C ∈ ob) (hk : Q (.v (.bl (neg ^^ decide (a = b)))) h) : eqOR ob neg (.v (.ref a)) (.v (.ref b)) h Q := by
  simp only [eqOR, ha, hb]
  exact ⟨⟨trivial, hc⟩, hk⟩
end
end G

namespace G
open PySem PySem.Spec PyProof.Rows L2
section
variable {K : PySem.W.Frag} {H H' H0 : Hp} {μ μ' : Mu} {h h' h2 : CH} {n : Nat}
mutual
theorem RV.cl : ∀ {x : CV} {v : V}, RV K H μ x v → clV μ.l.length x
  | _, _, .non => trivial
  | _, _, .bl _ => trivial
  | _, _, .int _ => trivial
  | _, _, .str _ => trivial
  | _, _, .tup _ r => RVs.cl r
  | _, _, .lst _ _ r => RVs.cl r
  | _, _, .obj _ _ _ r => RVs.cl r
  | _, _, .ref e => (List.getElem?_eq_some_iff.mp e).1
theorem RVs.cl : ∀ {xs : List CV} {vs : List V}, RVs K H μ xs vs → clVs μ.l.length xs
  | _, _, .nil => trivial
  | _, _, .cons a b => ⟨RV.cl a, RVs.cl b⟩
end
theorem RF.cl : ∀ {xs : List (Str × CV)} {vs : List (Str × V)}, RF K H μ xs vs → clF μ.l.length xs
  | _, _, .nil => trivial
  | _, _, .cons a b => ⟨a.cl, RF.cl b⟩
theorem Rel.cl (r : Rel K μ h H) : clH h := fun a o e => by
  have hl := (List.getElem?_eq_some_iff.mp e).1
  have hm : a < μ.l.length := by rw [r.len]; exact hl
  have q := r.ob a o μ.l[a] e (List.getElem?_eq_getElem hm)
  rw [← r.len]
  cases o with
  | lst xs => obtain ⟨_, _, z⟩ := q; exact z.cl
  | fro xs => obtain ⟨_, _, _, z⟩ := q; exact z.cl
  | ins C fs => obtain ⟨_, _, _, z⟩ := q; exact z.cl
theorem get_take {l : List Addr} {a n : Nat} {p : Addr} (e : l[a]? = some p) (h : a < n) : (l.take n)[a]? = some p := by
  rw [List.getElem?_take_of_lt h]; exact e
theorem RT.cut {p : Addr} {vs : List V} (h : RT K H μ p vs) : RT K H (μ.cut n) p vs := by
  rcases h with ⟨a, b⟩ | h
  · exact .inl ⟨a, fun m => b (Mu.mem_cut m)⟩
  · exact .inr h
mutual
theorem RV.cut : ∀ {x : CV} {v : V}, RV K H μ x v → clV n x → RV K H (μ.cut n) x v
  | _, _, .non, _ => .non
  | _, _, .bl _, _ => .bl _
  | _, _, .int _, _ => .int _
  | _, _, .str h, _ => .str h
  | _, _, .tup h r, c => .tup h.cut (RVs.cut r c)
  | _, _, .lst z h r, c => .lst z h (RVs.cut r c)
  | _, _, .obj z h l r, c => .obj z h l (RVs.cut r c)
  | _, _, .ref e, c => .ref (get_take e c)
theorem RVs.cut : ∀ {xs : List CV} {vs : List V}, RVs K H μ xs vs → clVs n xs → RVs K H (μ.cut n) xs vs
  | _, _, .nil, _ => .nil
  | _, _, .cons a b, c => .cons (RV.cut a c.1) (RVs.cut b c.2)
end
theorem RF.cut : ∀ {xs : List (Str × CV)} {vs : List (Str × V)}, RF K H μ xs vs → clF n xs → RF K H (μ.cut n) xs vs
  | _, _, .nil, _ => .nil
  | _, _, .cons a b, c => .cons (a.cut c.1) (RF.cut b c.2)
theorem RO.cut {o : CO} {p : Addr} (r : RO K H μ o p) (c : clO n o) : RO K H (μ.cut n) o p := by
  cases o with
  | lst xs => obtain ⟨vs, a, b⟩ := r; exact ⟨vs, a, b.cut c⟩
  | fro xs => obtain ⟨o, vs, a, b⟩ := r; exact ⟨o, vs, a, b.cut c⟩
  | ins C fs => obtain ⟨dx, vs, a, b⟩ := r; exact ⟨dx, vs, a, b.cut c⟩
theorem Rel.cut {gb : List CO} (r : Rel K μ (h2 ++ gb) H) (c : clH h2) : Rel K (μ.cut h2.length) h2 H := by
  refine ⟨?_, r.nd.sublist (List.take_sublist _ _), fun p z m => r.dj p z (List.take_subset _ _ m), r.hz, fun a o p ha hp => ?_⟩
  · show (μ.l.take _).length = _
    rw [List.length_take, r.len, List.length_append]; omega
  · have hl := (List.getElem?_eq_some_iff.mp ha).1
    change (μ.l.take _)[a]? = _ at hp
    rw [List.getElem?_take_of_lt hl] at hp
    exact (r.ob a o p (by rw [List.getElem?_append_left hl]; exact ha) hp).cut (c a o ha)
theorem Ext.cut {gb : List CO} (e : Ext H μ H' μ') (hl : μ.l.length ≤ n) : Ext H μ H' (μ'.cut n) := by
  refine ⟨?_, e.pz, fun p hp hn => e.fresh p (Mu.mem_cut hp) hn, e.keep, e.kz⟩
  obtain ⟨t, ht⟩ := e.pre
  show μ.l <+: μ'.l.take n
  rw [← ht, List.take_append]
  rw [List.take_of_length_le hl]
  exact List.prefix_append _ _
theorem RR.cutA {xs : List CV} {x : V} (r : RR K H0 H μ (.al xs) x) (c : clVs n xs) : RR K H0 H (μ.cut n) (.al xs) x := by
  obtain ⟨p, vs, a, b, d, e, f⟩ := r
  exact ⟨p, vs, a, b, fun m => d (Mu.mem_cut m), e, f.cut c⟩
/-- an own address behind a cut is no more one of ours -/
theorem cut_nin {gb : List CO} {μ1 : Mu} {h1 : CH} {a : Nat} {p : Addr} (rel1 : Rel K μ1 h1 H) (ha : μ1.l[a]? = some p) (la : n ≤ a) : p ∉ μ1.cut n := fun m => by
  have mp := List.mem_of_getElem? ha
  rcases m with m | m
  · obtain ⟨i, hi⟩ := List.mem_iff_getElem?.mp (show p ∈ μ1.l.take n from m)
    have hi2 : i < n := by
      have := (List.getElem?_eq_some_iff.mp hi).1
      rw [List.length_take] at this; omega
    rw [List.getElem?_take_of_lt hi2] at hi
    obtain ⟨l1, e1⟩ := List.getElem?_eq_some_iff.mp hi
    obtain ⟨l2, e2⟩ := List.getElem?_eq_some_iff.mp ha
    have := (List.getElem_inj rel1.nd).mp (e1.trans e2.symm)
    omega
  · exact rel1.dj p m mp
theorem cut_new {μ1 : Mu} {h1 : CH} {a : Nat} {p : Addr} (rel : Rel K μ h H0) (e1 : Ext H0 μ H' μ1) (rel1 : Rel K μ1 h1 H') (ha : μ1.l[a]? = some p) (l : h.length ≤ n) (la : n ≤ a) : H0 p = none := by
  refine e1.fresh p (.inl (List.mem_of_getElem? ha)) fun m => ?_
  rcases m with m | m
  · have nin := cut_nin (gb := []) rel1 ha la
    refine nin (.inl ?_)
    obtain ⟨t, ht⟩ := e1.pre
    show p ∈ μ1.l.take n
    rw [← ht, List.take_append]
    exact List.mem_append_left _ (by rw [List.take_of_length_le (by rw [rel.len]; exact l)]; exact m)
  · exact rel1.dj p (e1.pz p m) (List.mem_of_getElem? ha)
theorem zip_rf : ∀ {ns : List Str} {xs : List CV} {fs : List (Str × V)}, RF K H μ (ns.zip xs) fs → ns.length = xs.length → ∃ vs, fs = ns.zip vs ∧ RVs K H μ xs vs
  | [], [], _, .nil, _ => ⟨[], rfl, .nil⟩
  | n :: ns, x :: xs, _, .cons a b, e => by
    obtain ⟨vs, rfl, r⟩ := zip_rf b (by simpa using e)
    exact ⟨_ :: vs, rfl, .cons a r⟩
theorem post_gc {k : WQ} {Q : VK} (rel : Rel K μ h H) (ps : Post K H μ k Q) : Post K H μ (gcd h k) Q := by
  rintro r h1 ⟨r', h2, g, w⟩ μ1 H1 x e1 rel1 rr
  cases g with
  | all => exact ps _ _ w _ _ _ e1 rel1 rr
  | cut x h2 gb l c cx => exact ps _ _ w _ _ _ (e1.cut (gb := gb) (by rw [rel.len]; exact l)) (rel1.cut c) (show RV K H1 _ x _ from RV.cut rr cx)
  | cutA xs h2 gb l c cx => exact ps _ _ w _ _ _ (e1.cut (gb := gb) (by rw [rel.len]; exact l)) (rel1.cut c) (RR.cutA rr cx)
  | new a xs h2 gb l c cx la hob =>
    refine ps _ _ w _ _ _ (e1.cut (gb := gb) (by rw [rel.len]; exact l)) (rel1.cut c) ?_
    cases (show RV K H1 μ1 (.ref a) _ from rr) with
    | ref ha =>
    obtain ⟨vs, hp, rv⟩ := rel1.ob a (.lst xs) _ hob ha
    exact ⟨_, vs, rfl, cut_new rel e1 rel1 ha l la, cut_nin (gb := gb) rel1 ha la, hp, rv.cut cx⟩
  | newI a C ns xs h2 gb l c cx la hob hl =>
    cases (show RV K H1 μ1 (.ref a) _ from rr) with
    | ref ha =>
    obtain ⟨dx, fs, hp, rf⟩ := rel1.ob a (.ins C (ns.zip xs)) _ hob ha
    obtain ⟨vs, rfl, rv⟩ := zip_rf rf hl
    have nin := cut_nin (gb := gb) rel1 ha la
    have m := more_frz (μ := μ1.cut h2.length) (ins_np hp)
    refine ps _ _ w _ _ _ (ext_frz (e1.cut (gb := gb) (by rw [rel.len]; exact l)) (cut_new rel e1 rel1 ha l la)) ((rel1.cut c).frz nin ⟨_, hp⟩ (ins_np hp)) ?_
    exact .obj (.inr rfl) hp hl ((rv.cut cx).more m)
end
section
variable {X : Cx}
/-- a new thing, taken as it is from then on -/
theorem s_cool {e : Expr} {ie : CE} (he : PE X e (tE X.K (wE ie))) : PE X e (tE X.K (wE (.cool ie))) :=
  PE.imp he fun σ H Q ⟨c, h, μ, k, E, rs, rel, w, hE, ps⟩ => ⟨c, h, μ, _, E, rs, rel, w, hE, post_gc rel ps⟩
end
end G

/-! max with a default -/
namespace G
open PySem PySem.Spec PyProof.Rows L2
section
variable {prog : Program} {w : World} {A : Around} {R : Result → Shared → Prop} {I : Addr} {fp wr : List Addr} {n : Nat} {P : Nat → Value → Prop} {St : Nat → Heap → Prop}
/-- the collecting list of the loop: empty, or the best so far -/
def Bst (bt : Nat → Nat → Bool) (P : Nat → Value → Prop) (j : Nat) (xs : Array Value) : Prop := match j with
  | 0 => xs = #[]
  | j + 1 => ∃ v, P (argBest bt j) v ∧ xs = #[v, v]
theorem maxD_loop (W : Walks prog w A.in1 I fp wr n P St) (bt : Nat → Nat → Bool) (hcmp : CmpOf prog w A.in1 .Gt P bt) (S : Addr) (hSf : S ∉ fp) (d : Value) (k : Nat) :
    ∀ (j : Nat) (s : Shared) (xs : Array Value) (c : Nat), n - j = k → j ≤ n → St j s.heap → Bst bt P j xs → s.heap.get? S = some { cls := .type "list", dict := none, data := .seq xs c, slots := #[] } →
    (∀ v h' tk, (n = 0 ∧ v = d ∨ 0 < n ∧ P (argBest bt (n - 1)) v) → (∀ b o, b ∉ wr → b ≠ S → s.heap.get? b = some o → h'.get? b = some o) → R (.ok (.ret v)) { s with heap := h', toks := tk }) →
    codeAny (model prog w) A (.builtin "max.loop" ⟨[.ref I, .none, .ref S], [("default", d)]⟩) R s := by
  have hSw : S ∉ wr := fun h => hSf (W.sub _ h)
  have hname : (toString "max" ++ toString ".loop" : String) = "max.loop" := by decide
  induction k with
  | zero =>
    intro j s xs c hk hj hst hb hS hR
    have e : j = n := by omega
    subst e
    refine codeAny_builtin F.entry_max_loop ?_
    rw [Around.under_plainId F.plain_max_loop _]
    show wpAny _ A.in1 (seqItems? (.ref S) >>= _) _ _ s
    refine wpAny_bind (wpAny_seqItems hS rfl ?_)
    show wpAny _ A.in1 (tryCatch (pyNext (.ref I)) _ >>= _) _ _ s
    refine wpAny_bind (wpAny_tryCatch (W.done s _ _ hst fun h' tk hk' => ?_))
    have hS' := hk' S _ hSw hS
    cases j with
    | zero =>
      cases hb
      show wpAny _ A.in1 (rule _ >>= _) _ _ _
      exact wpAny_bind (wpAny_rule (wpAny_pure (hR d _ tk (.inl ⟨rfl, rfl⟩) fun b o hbw _ e => hk' b o hbw e)))
    | succ j =>
      obtain ⟨v, hv, rfl⟩ := hb
      show wpAny _ A.in1 (updateSeq S (fun _ => #[]) >>= _) _ _ _
      refine wpAny_bind (wpAny_updateSeq hS' rfl (wpAny_bind (wpAny_letGo (wpAny_pure ?_))))
      exact hR v _ tk (.inr ⟨by omega, hv⟩) fun b o hbw hbS e => (Heap.get?_update_other _ _ (Ne.symm hbS)).trans (hk' b o hbw e)
  | succ k ih =>
    intro j s xs c hk hj hst hb hS hR
    have hlt : j < n := by omega
    refine codeAny_builtin F.entry_max_loop ?_
    rw [Around.under_plainId F.plain_max_loop _]
    show wpAny _ A.in1 (seqItems? (.ref S) >>= _) _ _ s
    refine wpAny_bind (wpAny_seqItems hS rfl ?_)
    show wpAny _ A.in1 (tryCatch (pyNext (.ref I)) _ >>= _) _ _ s
    refine wpAny_bind (wpAny_tryCatch (W.item j s _ _ hlt hst fun v h' tk hP hst' hk' => ?_))
    have hS' := hk' S _ hSw hS
    have next : ∀ (ys : Array Value) (c2 : Nat) (h2 : Heap) (tk2 : Nat), St (j + 1) h2 → Bst bt P (j + 1) ys → h2.get? S = some { cls := .type "list", dict := none, data := .seq ys c2, slots := #[] } →
        (∀ b o, b ∉ wr → b ≠ S → s.heap.get? b = some o → h2.get? b = some o) → codeAny (model prog w) A (.builtin "max.loop" ⟨[.ref I, .none, .ref S], [("default", d)]⟩) R { s with heap := h2, toks := tk2 } := fun ys c2 h2 tk2 st2 b2 hS2 k2 =>
      ih (j + 1) _ ys c2 (by omega) hlt st2 b2 hS2 fun v h3 tk3 hv k3 => hR v h3 tk3 hv fun b o hbw hbS e => k3 b o hbw hbS (k2 b o hbw hbS e)
    cases j with
    | zero =>
      cases hb
      show wpAny _ A.in1 (updateSeq S (fun _ => #[v, v]) >>= _) _ _ _
      refine wpAny_bind (wpAny_updateSeq hS' rfl ?_)
      rw [hname]
      refine wpAny_pure ⟨plainId_quiet F.plain_max_loop _, next _ _ _ _ (W.frame _ _ _ hst' fun b hbf o e => (Heap.get?_update_other _ _ (fun h : S = b => hSf (by rw [h]; exact hbf))).trans e) ⟨v, hP, rfl⟩ (Heap.get?_update_self _ hS' rfl) fun b o hbw hbS e => (Heap.get?_update_other _ _ (Ne.symm hbS)).trans (hk' b o hbw e)⟩
    | succ j =>
      obtain ⟨vb, hPb, rfl⟩ := hb
      show wpAny _ A.in1 (tryCatch (holding [v, v] (richCompare .Gt v vb >>= _)) _ >>= _) _ _ _
      refine wpAny_bind (wpAny_tryCatch (wpAny_holding (wpAny_bind (hcmp (j + 1) (argBest bt j) v vb _ _ _ hP hPb ?_))))
      refine wpAny_bind (wpAny_holding (wpAny_truthy_bool ?_))
      refine wpAny_bind (wpAny_letGo (wpAny_pure ?_))
      cases hb : bt (j + 1) (argBest bt j) with
      | true =>
        simp only [if_true]
        refine wpAny_bind (wpAny_updateSeq hS' rfl (wpAny_bind (wpAny_letGo ?_)))
        rw [hname]
        exact wpAny_pure ⟨plainId_quiet F.plain_max_loop _, next _ _ _ _ (W.frame _ _ _ hst' fun b hbf o e => (Heap.get?_update_other _ _ (fun h : S = b => hSf (by rw [h]; exact hbf))).trans e) ⟨v, by simp only [argBest, hb, if_true]; exact hP, rfl⟩ (Heap.get?_update_self _ hS' rfl) fun b o hbw hbS e => (Heap.get?_update_other _ _ (Ne.symm hbS)).trans (hk' b o hbw e)⟩
      | false =>
        simp only [Bool.false_eq_true, if_false]
        refine wpAny_bind (wpAny_letGo ?_)
        rw [hname]
        exact wpAny_pure ⟨plainId_quiet F.plain_max_loop _, next _ _ _ _ hst' ⟨vb, by simp only [argBest, hb, Bool.false_eq_true, if_false]; exact hPb, rfl⟩ hS' fun b o hbw _ e => hk' b o hbw e⟩
end
end G

namespace G
open PySem PySem.Spec PyProof.Rows L2
section
variable {prog : Program} {w : World} {A : Around} {E : Value → Shared → Prop} {s : Shared}
theorem call_treeK {id : String} {b : Builtin} {args : List Value} {kw : List (Str × Value)} {Q : Value → Shared → Prop} (hk : builtinKind id = none) (hp : plainId id = true) (hb : entryFor table id = some b) (ha : argsOk id ⟨args, kw⟩)
    (hc : wpAny (model prog w) A.in1 (b ⟨args, kw⟩) (fun fin s' => match fin with
      | .done f => (match (Except.ok f : Result) with | .ok (.ret v) => Q v s' | .ok _ => False | .error e => E e s')
      | .again c' => c'.quiet = true ∧ codeAny (model prog w) A c' (fun r s' => match r with | .ok (.ret v) => Q v s' | .ok _ => False | .error e => E e s') s') E s) :
    wpAny (model prog w) A (call (.builtin id) args kw) Q E s := by
  refine wpAny_call (codeAny_call_builtin hp hb ?_)
  simp only [checkBuiltinCall, hk]
  cases hsig : Manifest.signature? id with
  | none => exact wpAny_pure hc
  | some sig =>
    simp only [argsOk, hsig] at ha
    have h2 : Bind.checkArgs id sig ⟨args, kw⟩ = pure () := ha
    show wpAny _ A.in1 (Bind.checkArgs id sig ⟨args, kw⟩) _ _ s
    rw [h2]; exact wpAny_pure hc
theorem args_maxD (a d : Value) : argsOk "max" ⟨[a], [("default", d)]⟩ := by unfold argsOk; kernel_rfl
theorem max_tupD {l : Addr} {its : Array Value} {num : Nat → Int} {d : Value} {Q : Value → Shared → Prop} (hh : A.handled = none) (hl : s.heap.IsTuple l its) (hi : ∀ (i : Nat) (v : Value), its[i]? = some v → ∃ t, v = Value.int (num i) t)
    (h : ∀ (v : Value) h' tk, (its.size = 0 ∧ v = d ∨ ∃ i t, i < its.size ∧ v = .int (num i) t ∧ ∀ j, j < its.size → num j ≤ num i) → (∀ b o, s.heap.get? b = some o → h'.get? b = some o) → Q v { s with heap := h', toks := tk }) :
    wpAny (model prog w) A (call (.builtin "max") [.ref l] [("default", d)]) Q E s := by
  have hname : (toString "max" ++ toString ".loop" : String) = "max.loop" := by decide
  have hlt : l < s.heap.objs.size := by obtain ⟨_, e, _⟩ := hl; exact Heap.lt_size e
  refine call_treeK F.kind_max F.plain_max F.entry_max (args_maxD _ _) ?_
  show wpAny _ A.in1 (Builtin.Builtins.bindParams "max" ["key", "default"] 0 ⟨[], [("default", d)]⟩ >>= _) _ _ s
  refine wpAny_bind (wpAny_of_eq (show Builtin.Builtins.bindParams "max" ["key", "default"] 0 ⟨[], [("default", d)]⟩ = pure [none, some d] from rfl) ?_)
  refine wpAny_bind (wpAny_pure ?_)
  refine wpAny_bind (wpAny_pyIter_tuple hl ?_)
  refine wpAny_bind (wpAny_newObj_type ?_)
  rw [hname]
  refine wpAny_pure ⟨plainId_quiet F.plain_max_loop _, maxD_loop (S := (s.heap.push { cls := .type "tuple_iterator", data := .fields #[.ref l, .int 0 0] }).objs.size) (Walks.tuple (A := A.in1) hh s.heap.objs.size l (Nat.ne_of_lt hlt) its) _ (CmpOf.ints_gt num hi) (fun z => ?_) d _ 0 _ _ _ rfl (Nat.zero_le _)
    ⟨⟨_, Heap.get?_push_of_some _ (Heap.get?_push_size _ rfl), rfl, rfl⟩, (hl.push _).push _⟩ rfl (Heap.get?_push_size _ rfl) fun v h' tk hv hk => ?_⟩
  · rw [Heap.size_push] at z
    rcases List.mem_cons.mp z with e | z
    · exact absurd e (Nat.succ_ne_self _)
    · rcases List.mem_cons.mp z with e | z
      · rw [← e] at hlt; exact absurd hlt (Nat.not_lt.mpr (Nat.le_succ _))
      · cases z
  refine h v h' tk ?_ fun b o e => hk b o (fun z => ?_) (fun z => ?_) (Heap.get?_push_of_some _ (Heap.get?_push_of_some _ e))
  · rcases hv with z | ⟨h0, z⟩
    · exact .inl z
    · obtain ⟨t, rfl⟩ := hi _ _ z
      obtain ⟨a1, a2⟩ := argBest_gt num (its.size - 1)
      exact .inr ⟨_, t, by omega, rfl, fun j hj => a2 j (by omega)⟩
  · rcases List.mem_cons.mp z with q | q
    · subst q; exact absurd (Heap.lt_size e) (Nat.lt_irrefl _)
    · cases q
  · rw [Heap.size_push] at z
    subst z; exact absurd (Heap.lt_size e) (Nat.not_lt.mpr (Nat.le_succ _))
end
end G

namespace G
open PySem PySem.Spec PyProof.Rows L2
section
variable {X : Cx}
def rMaxTD (K : PySem.W.Frag) : List V → List V → Hp → VK → Prop := fun vs zs H Q => ∃ (a : Addr) (ns : List Int) (d : Int), vs = [V.ref a] ∧ zs = [V.int d] ∧ SqT K H a (ns.map V.int) ∧ ∀ m, (ns = [] ∧ m = d ∨ m ∈ ns ∧ ∀ y, y ∈ ns → y ≤ m) → Q (.int m) H
theorem cr_maxTD (hc : X.calm = true) : CallRK X (.builtin "max") ["default"] (rMaxTD X.K) := by
  intro pins s σ H vs zs us ws Q I r rz h
  obtain ⟨a, ns, d, rfl, rfl, hs, q⟩ := h
  obtain rfl := Vals.ref1 r
  obtain ⟨w1, rfl, e1⟩ := vals1 rz
  obtain ⟨td, rfl⟩ := e1
  obtain ⟨its, rv, hl, _⟩ := I.tuple hs
  have hlen : its.length = ns.length := by rw [← rv.length, List.length_map]
  refine max_tupD (num := fun i => ns.getD i 0) (I.ok.hd hc) hl (fun i v e => ?_) (fun v h' tk hv hk => ?_)
  · have e2 : its[i]? = some v := by simpa using e
    have hi : i < its.length := (List.getElem?_eq_some_iff.mp e2).1
    have e3 : (ns.map V.int)[i]? = some (V.int (ns.getD i 0)) := by
      rw [List.getElem?_map, List.getElem?_eq_getElem (by omega)]
      simp [List.getD, List.getElem?_eq_getElem (show i < ns.length by omega)]
    obtain ⟨u, hu, ru⟩ := rv.get e3
    rw [hu] at e2
    cases e2
    exact ru
  · rcases hv with ⟨z, rfl⟩ | ⟨i, t, hi, rfl, hm⟩
    · refine ⟨.int d, H, I.kept hk, ⟨_, rfl⟩, q d (.inl ⟨?_, rfl⟩)⟩
      exact List.eq_nil_of_length_eq_zero (by rw [← hlen]; simpa using z)
    · have hi2 : i < ns.length := by rw [← hlen]; simpa using hi
      have eg : ∀ j (hj : j < ns.length), ns.getD j 0 = ns[j] := fun j hj => by simp [List.getD, List.getElem?_eq_getElem hj]
      refine ⟨.int (ns.getD i 0), H, I.kept hk, ⟨_, rfl⟩, q _ (.inr ⟨?_, fun y hy => ?_⟩)⟩
      · rw [eg i hi2]; exact List.getElem_mem hi2
      · obtain ⟨j, hj, rfl⟩ := List.mem_iff_getElem.mp hy
        have := hm j (by simpa [hlen] using hj)
        rw [eg j hj] at this
        exact this
end
end G

namespace G
open PySem PySem.Spec PyProof.Rows L2
section
variable {X : Cx}
theorem maxDI_of {ns : List Int} {d m : Int} (h : ns = [] ∧ m = d ∨ m ∈ ns ∧ ∀ y, y ∈ ns → y ≤ m) : m = maxDI ns d := by
  rcases h with ⟨rfl, rfl⟩ | ⟨h1, h2⟩
  · rfl
  · cases ns with
    | nil => cases h1
    | cons x r =>
      show m = maxI (x :: r)
      obtain ⟨a, b⟩ := maxI_spec (ns := x :: r) (by simp)
      exact Int.le_antisymm (b _ h1) (h2 _ a)
theorem s_maxD {p pos kp : Pos} {e d : Expr} {ie id : CE} (hc : X.calm = true) (hg : Gl X "max") (hm : X.mg "max" = none) (he : PE X e (tE X.K (wE ie))) (hd : PE X d (tE X.K (wE id))) (hst : stars [e] = false) :
    PE X (.Call (.Name "max" p) [e] [⟨some "default", d, kp⟩] pos) (tE X.K (wE (.maxD ie id))) := by
  obtain ⟨s1, _⟩ := stars_cons hst
  refine PE.imp (pe_callBK (ks := ["default"]) (cr_maxTD hc) hg hm (by decide +kernel) (pa_cons he pa_nil (starEach_cons s1)) (pk_cons hd pk_nil) (by decide) (by decide) (by rw [starEach_cons s1]; rfl) (plain_of hst)) fun σ H Q ⟨c, h, μ, k, E, rs, rel, w, hE, ps⟩ => ?_
  refine ⟨c, h, μ, _, E, rs, rel, w, hE, fun r1 h1 w1 μ1 H1 x e1 rel1 rr1 => ?_⟩
  refine ⟨c, h1, μ1, _, E, rs.ext e1, rel1, w1, hE, fun r2 h2 w2 μ2 H2 y e2 rel2 rr2 => ?_⟩
  obtain ⟨ns, en, w2⟩ := oP_of w2
  obtain ⟨m, rfl, w2⟩ := inI_of w2
  have ra := rr1.rx.ext e2
  cases q : tpOf r1 with
  | none => rw [q] at en; cases en
  | some xs =>
    rw [q] at en
    obtain ⟨p, vs, rfl, t, rv, _⟩ := tpOf_sq ra q
    have ev := ints_rv rv en
    refine ⟨p, ns, m, rfl, by rw [rx_int rr2.rx], by rw [← ev]; exact t.sq, fun m' hm' => ?_⟩
    rw [maxDI_of hm']
    exact (ps.on (e1.trans e2) rel2).int w2 rel2
end
end G

namespace G
open PySem PySem.Spec PyProof.Rows L2
/-! ### from the text to the core language -/
inductive GE where
  | con (v : CV)
  | fn (f : Addr) (sp : Spec) (n : Nat) (pats : List (Nat × List CV)) (th : List Bool) (kp : List ((Nat × List Str) × List Src))
  | cls (C : Addr) (sp : Spec) (n : Nat) (pats : List (Nat × List CV)) (th : List Bool) (kp : List ((Nat × List Str) × List Src))
structure Cfg where
  N : List Str
  sc : Scope
  raw : Scope
  tab : List (Str × GE)
  nog : List Str
  icl : List Addr
  flds : List (Str × List Addr)
  mths : List ((Str × Nat) × List (Addr × Spec × Nat × List CV))
  mutn : List Str
  mutf : List Str
  mutm : List (Str × List Bool)
  lens : List (Addr × Spec × Nat × List CV)
  eqo : List Addr
  eqs : List (Addr × Spec × Nat × List CV)
  nest : Bool
  cool : List Str
  isiC : List (Str × Addr × List Addr)
def ixOf : List Str → Str → Option Nat
  | [], _ => none
  | y :: r, x => if y = x then some 0 else (ixOf r x).map (· + 1)
theorem ixOf_get : ∀ {N : List Str} {x : Str} {i : Nat}, ixOf N x = some i → N[i]? = some x
  | y :: r, x, i, e => by
    unfold ixOf at e
    split at e
    · cases e; rename_i q; rw [q]; rfl
    · cases q : ixOf r x with
      | none => rw [q] at e; cases e
      | some j => rw [q] at e; cases e; exact ixOf_get (N := r) q
def visk (sc : Scope) (x : Str) : Bool := match sc.names.lookup x with
  | some .local => true
  | some .cell => true
  | some .free => true
  | _ => false
def glk (sc : Scope) (x : Str) : Bool := match sc.names.lookup x with
  | some .globalImplicit => true
  | _ => false
def tgk (sc : Scope) (x : Str) : Bool := match sc.names.lookup x with
  | some .local => true
  | some .cell => true
  | _ => false
def okNm (x : Str) : Bool := !(x == ("__debug__" : Str)) && !(x == ("__classdict__" : Str))
def isSlice : Expr → Bool
  | .Slice _ _ _ _ => true
  | _ => false
def isLc : Expr → Bool
  | .ListComp _ _ _ _ => true
  | .SetComp _ _ _ _ => true
  | .DictComp _ _ _ _ _ => true
  | _ => false
def isSet : Expr → Bool
  | .Set _ _ _ => true
  | _ => false
def isTup : Expr → Bool
  | .Tuple _ _ _ => true
  | _ => false
def ownOf (N : List Str) (scope : Scope) : List (Str × Nat) := scope.names.filterMap fun (n, k) => match k with
  | .local => (ixOf N n).map (n, ·)
  | .cell => (ixOf N n).map (n, ·)
  | _ => none
def lkP (l : List (Nat × List CV)) (k : Nat) : Option (List CV) := match l with
  | [] => none
  | (j, d) :: r => if j = k then some d else lkP r k
def tyName (g : Cfg) (x : Str) : Option Ty :=
  if x = "int" then some .int else if x = "bool" then some .bool else if x = "str" then some .str else if x = "tuple" then some .tuple else if x = "list" then some .list else none
def bmName (m : Str) (n : Nat) : Option Bm := if m = "append" ∧ n = 1 then some .append else if m = "extend" ∧ n = 1 then some .extend
  else if m = "remove" ∧ n = 1 then some .remove else if m = "pop" ∧ n ≤ 1 then some .pop else if m = "insert" ∧ n = 2 then some .insert else if m = "reverse" ∧ n = 0 then some .reverse
  else if m = "clear" ∧ n = 0 then some .clear else if m = "count" ∧ n = 1 then some .count else if m = "index" ∧ n = 1 then some .index else none
def kwNames (ks : List Keyword) : List Str := ks.filterMap (·.arg)
def kwOk (ks : List Keyword) : Bool := ks.all fun k => k.arg.isSome
def lkK (l : List ((Nat × List Str) × List Src)) (n : Nat) (ks : List Str) : Option (List Src) := match l with
  | [] => none
  | ((m, js), a) :: r => if m = n ∧ js = ks then some a else lkK r n ks
def cvName (x : Str) : Option Bool := if x = "list" then some false else if x = "tuple" then some true else none

/-- taken as one's own where it is changed later -/
def tw (b : Bool) (e : CE) : CE := if b then .thaw e else e
def twa (b : Bool) (e : CE) : CE := match e with
  | .var i => .var i
  | e => tw b e
def hd0 : List Bool → Bool
  | [] => false
  | b :: _ => b
/-- arguments, some of them taken so -/
def cAt (f : Expr → CE) : List Bool → List Expr → CA
  | _, [] => .nil
  | bs, e :: es => if stars [e] then .cons .bad .nil else .cons (twa (hd0 bs) (f e)) (cAt f (bs.drop 1) es)
def cAk (f : Expr → CE) : List Keyword → CA
  | [] => .nil
  | k :: ks => .cons (f k.value) (cAk f ks)
def rgOk (g : Cfg) (x y : Str) (es : List Expr) : Bool := y == "range" && glk g.sc y && g.nog.contains y && okNm y && !stars es && (cvName x).isSome
def lnOk (g : Cfg) (x y : Str) (es : List Expr) : Bool := x == "len" && y == "range" && glk g.sc y && g.nog.contains y && okNm y && !stars es
/-- a built-in of that name -/
def cBlt0 (f : Expr → CE) (x : Str) (es : List Expr) : CE := match bltName x es.length with
  | some b => .blt b (cAt f [] es)
  | none => .bad
/-- a comparison of two -/
def cCmp (g : Cfg) (op : CmpOp) (a b : CE) : CE := match op with
  | .Eq => if g.eqo.isEmpty = false ∧ g.eqs.isEmpty = false then .cmpM g.eqo g.eqs false a b else if g.eqo.isEmpty = false then .cmpO g.eqo false a b else if g.eqs.isEmpty = false then .cmpI g.eqs false a b else .cmp .Eq a b
  | .NotEq => if g.eqo.isEmpty = false ∧ g.eqs.isEmpty = false then .cmpM g.eqo g.eqs true a b else if g.eqo.isEmpty = false then .cmpO g.eqo true a b else if g.eqs.isEmpty = false then .cmpI g.eqs true a b else .cmp .NotEq a b
  | op => .cmp op a b
/-- one argument -/
def cOne (f : Expr → CE) (g : Cfg) (x : Str) (e : Expr) : CE := if x = "len" ∧ g.lens.isEmpty = false then .lenI g.lens (f e) else cBlt0 f x [e]
def cBlt (f : Expr → CE) (g : Cfg) (x : Str) (es : List Expr) : CE := match es with
  | [.Call (.Name y p) [a] [] q] => if rgOk g x y [a] then .lrng ((cvName x).getD false) (.con (.int 0)) (f a) else if lnOk g x y [a] then .lnrg (f a) else cOne f g x (.Call (.Name y p) [a] [] q)
  | [.Call (.Name y p) [a, b] [] q] => if rgOk g x y [a, b] then .lrng ((cvName x).getD false) (f a) (f b) else cOne f g x (.Call (.Name y p) [a, b] [] q)
  | [e, .Name t p] => if x = "isinstance" ∧ glk g.sc t = true ∧ okNm t = true then (match g.isiC.lookup t with
      | some q => .isi (f e) (.own q.1) q.2
      | none => if g.nog.contains t = true then (match tyName g t with
        | some ty => .isi (f e) ty g.icl
        | none => .bad) else .bad) else cBlt0 f x [e, .Name t p]
  | [e] => cOne f g x e
  | es => cBlt0 f x es
def cl (b : Bool) (e : CE) : CE := if b then .cool e else e
def cBltK (f : Expr → CE) (x : Str) (es : List Expr) (ks : List Keyword) : CE := match es, ks with
  | [e], [⟨some nm, d, _⟩] => if x = "max" ∧ nm = "default" then .maxD (f e) (f d) else .bad
  | _, _ => .bad
/-- a call by a name -/
def cCall (f : Expr → CE) (g : Cfg) (x : Str) (es : List Expr) (ks : List Keyword) : CE :=
  if stars es || !okNm x || !glk g.sc x then .bad else (match ks with
  | [] => (match g.tab.lookup x with
      | some (.fn _ sp m pats th kp) => (match lkP pats es.length with
        | some ds => .call sp m ds (cAt f th es)
        | none => (match es with
          | [] => .bad
          | e :: es => (match lkK kp (e :: es).length (kwNames []) with
            | some ar => .callk sp (e :: es).length (kwNames []).length ar (cAt f th (e :: es)) (cAk f [])
            | none => .bad)))
      | some (.cls C sp m pats th kp) => (match lkP pats es.length with
        | some ds => cl (g.cool.contains x) (.new C sp m ds (cAt f th es))
        | none => (match lkK kp es.length (kwNames []) with
          | some ar => cl (g.cool.contains x) (.newk C sp es.length (kwNames []).length ar (cAt f th es) (cAk f []))
          | none => .bad))
      | some (.con _) => .bad
      | none => if !g.nog.contains x then .bad else cBlt f g x es)
  | k :: ks => if !kwOk (k :: ks) then .bad else (match g.tab.lookup x with
      | some (.fn _ sp m _ th kp) => (match es with
        | [] => (match lkK kp 0 (kwNames (k :: ks)) with
          | some ar => .callk sp 0 (kwNames (k :: ks)).length ar .nil (cAk f (k :: ks))
          | none => .bad)
        | e :: es => (match lkK kp (e :: es).length (kwNames (k :: ks)) with
          | some ar => .callk sp (e :: es).length (kwNames (k :: ks)).length ar (cAt f th (e :: es)) (cAk f (k :: ks))
          | none => .bad))
      | some (.cls C sp m _ th kp) => (match lkK kp es.length (kwNames (k :: ks)) with
        | some ar => cl (g.cool.contains x) (.newk C sp es.length (kwNames (k :: ks)).length ar (cAt f th es) (cAk f (k :: ks)))
        | none => .bad)
      | some (.con _) => .bad
      | none => if !g.nog.contains x then .bad else cBltK f x es (k :: ks)))
/-! targets -/
mutual
def cG : Nat → Cfg → Expr → Option CT
  | 0, _, _ => none
  | n + 1, g, .Name x _ => if tgk g.raw x then (ixOf g.N x).map .name else none
  | n + 1, g, .Tuple es _ _ => (cGs n g es).map .tup
  | _, _, _ => none
def cGs : Nat → Cfg → List Expr → Option CTs
  | _, _, [] => some .nil
  | 0, _, _ => none
  | n + 1, g, e :: es => match cG n g e, cGs n g es with
    | some t, some ts => some (.cons t ts)
    | _, _ => none
end
mutual
def cE : Nat → Cfg → Expr → CE
  | 0, _, _ => .bad
  | n + 1, g, .Name x _ => if okNm x then (if visk g.sc x then (match ixOf g.N x with
      | some i => .var i
      | none => .bad) else if glk g.sc x then (match g.tab.lookup x with
      | some (.con v) => .con v
      | _ => .bad) else .bad) else .bad
  | n + 1, g, .Constant c _ _ => (match c with
    | .none => .con .non
    | .bool b => .con (.bl b)
    | .int i => .con (.int i)
    | .str s => if s.length ≤ 1000 then .con (.str s) else .bad
    | _ => .bad)
  | n + 1, g, .BinOp a op b _ => .bin op (cE n g a) (cE n g b)
  | n + 1, g, .UnaryOp .USub a _ => .neg (cE n g a)
  | n + 1, g, .UnaryOp .Not a _ => .nt (.val (cE n g a))
  | n + 1, g, .Compare a [op] [b] _ => if behindInMarks op b then .bad else cCmp g op (cE n g a) (cE n g b)
  | n + 1, g, .Compare a [o1, o2] [b, c] _ => if behindInMarks o2 c then .bad else .chn o1 o2 (cE n g a) (cE n g b) (cE n g c)
  | n + 1, g, .BoolOp op vs p => cBo n g op vs
  | n + 1, g, .IfExp t a b _ => .ife (cT n g t) (cE n g a) (cE n g b)
  | n + 1, g, .Tuple es _ _ => .tup (cA n g es)
  | n + 1, g, .List es _ => .lst (cAt (cE n g) (List.replicate es.length g.nest) es)
  | n + 1, g, .Attribute o f _ => if isCall o then .bad else (match g.flds.lookup f with
    | some cs => .fld (cE n g o) f cs
    | none => .bad)
  | n + 1, g, .Subscript a (.Slice none none (some (.UnaryOp .USub (.Constant (.int 1) _ _) _)) _) _ => .srev (cE n g a)
  | n + 1, g, .Subscript a (.Slice lo hi none _) _ => .sl (cE n g a) (cO n g lo) (cO n g hi)
  | n + 1, g, .Subscript a (.Slice lo hi (some st) _) _ => .sl3 (cE n g a) (cO n g lo) (cO n g hi) (cO n g (some st))
  | n + 1, g, .Subscript a b _ => if isSlice b then .bad else .ix (cE n g a) (cE n g b)
  | n + 1, g, .Call (.Name x _) es ks _ => cCall (cE n g) g x es ks
  | n + 1, g, .Call (.Attribute o m ap) es [] p => if stars es || isCall o || !decide (es.length < 30) || !(ap.endLine == p.line) then .bad else
      (match g.mths.lookup (m, es.length) with
      | some tb => .mth tb m (cE n g o) (cAt (cE n g) ((g.mutm.lookup m).getD []) es)
      | none => (match bmName m es.length with
        | some b => .bm b (cE n g o) (cAt (cE n g) (List.replicate es.length g.nest) es)
        | none => .bad))
  | n + 1, g, .ListComp elt gs scope _ => (match gs with
      | [⟨tg, it, ifs, k⟩] => if !decide (k = 0) || !blkC g.N g.sc scope (ownOf g.N scope) || isSet it then .bad else
        (match cG n { g with sc := relS scope g.sc, raw := scope } tg with
        | some t => if (ctN t).all (((ownOf g.N scope).map (·.2)).contains ·) then
            .lc ((ownOf g.N scope).map (·.2)) t (cI n g tg it) (cF n { g with sc := relS scope g.sc, raw := scope } ifs) (tw g.nest (cE n { g with sc := relS scope g.sc, raw := scope } elt)) else .bad
        | none => .bad)
      | [⟨tg, it, ifs, k⟩, ⟨tg1, it1, ifs1, k1⟩] => if !decide (k = 0) || !decide (k1 = 0) || !blkC g.N g.sc scope (ownOf g.N scope) || isSet it || isSet it1 then .bad else
        (match cG n { g with sc := relS scope g.sc, raw := scope } tg, cG n { g with sc := relS scope g.sc, raw := scope } tg1 with
        | some t, some t1 => if (ctN t).all (((ownOf g.N scope).map (·.2)).contains ·) && (ctN t1).all (((ownOf g.N scope).map (·.2)).contains ·) then
            .lc2 ((ownOf g.N scope).map (·.2)) t (cI n g tg it) (cF n { g with sc := relS scope g.sc, raw := scope } ifs) t1 (cI n { g with sc := relS scope g.sc, raw := scope } tg1 it1) (cF n { g with sc := relS scope g.sc, raw := scope } ifs1) (cE n { g with sc := relS scope g.sc, raw := scope } elt) else .bad
        | _, _ => .bad)
      | _ => .bad)
  | _, _, _ => .bad
/-- and, or as values -/
def cBo : Nat → Cfg → BoolOp → List Expr → CE
  | 0, _, _, _ => .bad
  | n + 1, g, op, [a] => cE n g a
  | n + 1, g, .And, a :: b :: r => .an (cE n g a) (cBo n g .And (b :: r))
  | n + 1, g, .Or, a :: b :: r => .orr (cE n g a) (cBo n g .Or (b :: r))
  | _, _, _, _ => .bad
/-- tests -/
def cT : Nat → Cfg → Expr → CB
  | 0, _, _ => .val .bad
  | n + 1, g, .UnaryOp .Not a _ => .nt (cT n g a)
  | n + 1, g, .BoolOp op vs _ => cTo n g op vs
  | n + 1, g, .IfExp _ _ _ _ => .val .bad
  | n + 1, g, .Compare a [op] [b] _ => if behindInMarks op b then .val .bad else .val (cCmp g op (cE n g a) (cE n g b))
  | n + 1, g, .Compare a [o1, o2] [b, c] _ => if behindInMarks o2 c then .val .bad else .val (.chn o1 o2 (cE n g a) (cE n g b) (cE n g c))
  | n + 1, g, .Compare _ _ _ _ => .val .bad
  | n + 1, g, e => .val (cE n g e)
def cTo : Nat → Cfg → BoolOp → List Expr → CB
  | 0, _, _, _ => .val .bad
  | n + 1, g, op, [a] => cT n g a
  | n + 1, g, .And, a :: b :: r => .an (cT n g a) (cTo n g .And (b :: r))
  | n + 1, g, .Or, a :: b :: r => .orr (cT n g a) (cTo n g .Or (b :: r))
  | _, _, _, _ => .val .bad
def cF : Nat → Cfg → List Expr → CB
  | _, _, [] => .yes
  | 0, _, _ => .val .bad
  | n + 1, g, [c] => cT n g c
  | _, _, _ => .val .bad
def cA : Nat → Cfg → List Expr → CA
  | _, _, [] => .nil
  | 0, _, _ => .cons .bad .nil
  | n + 1, g, e :: es => if stars [e] then .cons .bad .nil else .cons (cE n g e) (cA n g es)
def cO : Nat → Cfg → Option Expr → CO1
  | _, _, none => .none
  | 0, _, _ => .some .bad
  | n + 1, g, some e => .some (cE n g e)
def cI : Nat → Cfg → Expr → Expr → CI
  | 0, _, _, _ => .val .bad
  | n + 1, g, tg, .Call (.Name x p) es [] q =>
      if x = "range" ∧ glk g.sc x = true ∧ g.nog.contains x = true ∧ stars es = false then (match es with
        | [a] => .rng1 (cE n g a)
        | [a, b] => .rng2 (cE n g a) (cE n g b)
        | [a, b, c] => .rng3 (cE n g a) (cE n g b) (cE n g c)
        | _ => .val .bad)
      else if x = "enumerate" ∧ glk g.sc x = true ∧ g.nog.contains x = true ∧ stars es = false ∧ isTup tg = true then (match es with
        | [.Call (.Name y _) [a, b] [] _] => if y = "zip" ∧ glk g.sc y = true ∧ g.nog.contains y = true ∧ stars [a, b] = false then .enumz (cE n g a) (cE n g b) else .val .bad
        | [a] => .enum (cE n g a)
        | _ => .val .bad)
      else if x = "zip" ∧ glk g.sc x = true ∧ g.nog.contains x = true ∧ stars es = false ∧ isTup tg = true then (match es with
        | [a, b] => .zip (cE n g a) (cE n g b)
        | _ => .val .bad)
      else if x = "reversed" ∧ glk g.sc x = true ∧ g.nog.contains x = true ∧ stars es = false then (match es with
        | [a] => .rev (cE n g a)
        | _ => .val .bad)
      else .val (cE n g (.Call (.Name x p) es [] q))
  | n + 1, g, _, e => .val (cE n g e)
end
end G

namespace G
open PySem PySem.Spec PyProof.Rows L2
def GOk (X : Cx) (x : Str) : GE → Prop
  | .con v => ∃ u y, X.mg x = some u ∧ RelV y u ∧ ∀ H μ, RV X.K H μ v y
  | .fn f sp n pats th kp => X.mg x = some (.ref f) ∧ PySem.W.keepIn X.K (.ref f) = true ∧ (∀ k ds, lkP pats k = some ds → FOk X f sp n ds) ∧ ∀ k ks ar, lkK kp k ks = some ar → FOkK X f sp n k ks ar
  | .cls C sp n pats th kp => X.mg x = some (.ref C) ∧ (∀ k ds, lkP pats k = some ds → NOk X C sp n ds) ∧ ∀ k ks ar, lkK kp k ks = some ar → NOkK X C sp n k ks ar
structure CfgOk (g : Cfg) (X : Cx) : Prop where
  N : X.N = g.N
  nd : g.N.Nodup
  sc : X.env.scope = g.sc
  calm : X.calm = true
  hu : X.A.units + 65 < cLine
  hp : PassesOwn (model X.prog X.w) X.A X.env X.xe
  tg : ∀ x, tgk g.raw x = true → Loc X.env.scope x ∧ (X.fn x = true ∨ X.env.scope.names.lookup x = some .local)
  tab : ∀ x e, g.tab.lookup x = some e → GOk X x e
  nog : ∀ x, x ∈ g.nog → X.mg x = none
  flds : ∀ f cs, g.flds.lookup f = some cs → ∀ C ∈ cs, Cls X.K C ∧ NoAttr X.K C f
  mths : ∀ m k tb, g.mths.lookup (m, k) = some tb → ∀ C sp n ds, look tb C = some (sp, n, ds) → MOk X C m sp n ds
  lens : ∀ C sp n ds, look g.lens C = some (sp, n, ds) → LOk X C sp n ds
  eqo : ∀ C, C ∈ g.eqo → ObjEq X.K C
  eqs : ∀ C sp n ds, look g.eqs C = some (sp, n, ds) → EOk X C sp n ds
  isiC : ∀ t q, g.isiC.lookup t = some q → X.mg t = some (.ref q.1) ∧ IsOk X.K (.own q.1) q.2
  icl : ∀ t, (t = .int ∨ t = .bool ∨ t = .str ∨ t = .tuple ∨ t = .list) → IsOk X.K t g.icl
section
variable {X : Cx} {g : Cfg}
theorem FOk.blk {X Y : Cx} {f : Addr} {sp : Spec} {n : Nat} {ds : List CV} (h : FOk X f sp n ds) (e1 : Y.prog = X.prog) (e2 : Y.w = X.w) (e3 : Y.K = X.K) (e4 : Y.mg = X.mg) (e5 : Y.base = X.base) (e6 : Y.A = X.A) : FOk Y f sp n ds := by
  obtain ⟨fd, k, ps, dvs, dus, a, b, c, d, e⟩ := h.ex
  exact ⟨fd, k, ps, dvs, dus, by rw [e1, e2, e3, e4, e5]; exact a, by rw [e6]; exact b, by rw [e3]; exact c, d, by rw [e3]; exact e⟩
theorem NOk.blk {X Y : Cx} {f : Addr} {sp : Spec} {n : Nat} {ds : List CV} (h : NOk X f sp n ds) (e1 : Y.prog = X.prog) (e2 : Y.w = X.w) (e3 : Y.K = X.K) (e4 : Y.mg = X.mg) (e5 : Y.base = X.base) (e6 : Y.A = X.A) : NOk Y f sp n ds := by
  obtain ⟨f, fd, k, ps, dvs, dus, m, a, b, c, d, e⟩ := h.ex
  exact ⟨f, fd, k, ps, dvs, dus, by rw [e3]; exact m, by rw [e1, e2, e3, e4, e5]; exact a, by rw [e6]; exact b, by rw [e3]; exact c, d, by rw [e3]; exact e⟩
theorem FOkK.blk {X Y : Cx} {f : Addr} {sp : Spec} {n np : Nat} {ks : List Str} {ar : List Src} (h : FOkK X f sp n np ks ar) (e1 : Y.prog = X.prog) (e2 : Y.w = X.w) (e3 : Y.K = X.K) (e4 : Y.mg = X.mg) (e5 : Y.base = X.base) (e6 : Y.A = X.A) : FOkK Y f sp n np ks ar := by
  obtain ⟨fd, k, ps, g, gV, a, b, c, d, e⟩ := h.ex
  exact ⟨fd, k, ps, g, gV, by rw [e1, e2, e3, e4, e5]; exact a, by rw [e6]; exact b, by rw [e3]; exact c, by rw [e3]; exact d, e⟩
theorem NOkK.blk {X Y : Cx} {f : Addr} {sp : Spec} {n np : Nat} {ks : List Str} {ar : List Src} (h : NOkK X f sp n np ks ar) (e1 : Y.prog = X.prog) (e2 : Y.w = X.w) (e3 : Y.K = X.K) (e4 : Y.mg = X.mg) (e5 : Y.base = X.base) (e6 : Y.A = X.A) : NOkK Y f sp n np ks ar := by
  obtain ⟨f, fd, k, ps, g, gV, m, a, b, c, d, e⟩ := h.ex
  exact ⟨f, fd, k, ps, g, gV, by rw [e3]; exact m, by rw [e1, e2, e3, e4, e5]; exact a, by rw [e6]; exact b, by rw [e3]; exact c, by rw [e3]; exact d, e⟩
theorem CfgOk.blk (h : CfgOk g X) (s : Shared) (H : Hp) (C : Addr) (cl : List (Str × Addr)) (fp : List Addr) (scope : Scope) : CfgOk { g with sc := relS scope g.sc, raw := scope } (X.blk s H scope (compEnvC scope cl C X.env) fp) where
  N := h.N
  nd := h.nd
  sc := by show relS scope X.env.scope = relS scope g.sc; rw [h.sc]
  calm := h.calm
  hu := h.hu
  hp := PassesOwn.never
  tg := fun x e => by
    unfold tgk at e
    split at e
    · rename_i q
      have z : (relS scope X.env.scope).names.lookup x = some .local := lookup_relS_keep (by decide) q
      exact ⟨.inl z, .inr z⟩
    · rename_i q
      have z : (relS scope X.env.scope).names.lookup x = some .cell := lookup_relS_keep (by decide) q
      exact ⟨.inr z, .inl (by show (scope.names.lookup x == some NameKind.cell) = true; rw [q]; rfl)⟩
    · cases e
  tab := fun x e he => by
    have z := h.tab x e he
    cases e with
    | con v => exact z
    | fn f sp n pats th kp => exact ⟨z.1, z.2.1, fun k ds hk => (z.2.2.1 k ds hk).blk rfl rfl rfl rfl rfl rfl, fun k ks ar hk => (z.2.2.2 k ks ar hk).blk rfl rfl rfl rfl rfl rfl⟩
    | cls C sp n pats th kp => exact ⟨z.1, fun k ds hk => (z.2.1 k ds hk).blk rfl rfl rfl rfl rfl rfl, fun k ks ar hk => (z.2.2 k ks ar hk).blk rfl rfl rfl rfl rfl rfl⟩
  nog := h.nog
  flds := h.flds
  mths := fun m k tb e C sp n ds hl => by
    obtain ⟨f, a, b, c⟩ := (h.mths m k tb e C sp n ds hl).ex
    exact ⟨f, a, b, c.blk rfl rfl rfl rfl rfl rfl⟩
  lens := fun C sp n ds hl => by
    obtain ⟨f, fd, k, ps, dvs, dus, m, a, b, c, d, e⟩ := (h.lens C sp n ds hl).ex
    exact ⟨f, fd, k, ps, dvs, dus, m, a, b, c, d, e⟩
  eqo := h.eqo
  eqs := fun C sp n ds hl => by
    obtain ⟨f, fd, k, ps, dvs, dus, m, a, b, c, d, e⟩ := (h.eqs C sp n ds hl).ex
    exact ⟨f, fd, k, ps, dvs, dus, m, a, b, c, d, e⟩
  isiC := h.isiC
  icl := h.icl
theorem s_cCmp (h : CfgOk g X) {a b : Expr} {op : CmpOp} {pos : Pos} {ia ib : CE} (ha : PE X a (tE X.K (wE ia))) (hb : PE X b (tE X.K (wE ib))) (hm : behindInMarks op b = false) : PE X (.Compare a [op] [b] pos) (tE X.K (wE (cCmp g op ia ib))) := by
  unfold cCmp
  split
  · split
    · exact s_cmpM h.hu h.eqo h.eqs (.inl ⟨rfl, rfl⟩) ha hb hm
    · split
      · exact s_cmpO h.hu h.eqo (.inl ⟨rfl, rfl⟩) ha hb hm
      · split
        · exact s_cmpI h.hu h.eqs (.inl ⟨rfl, rfl⟩) ha hb hm
        · exact s_cmp h.hu ha hb hm
  · split
    · exact s_cmpM h.hu h.eqo h.eqs (.inr ⟨rfl, rfl⟩) ha hb hm
    · split
      · exact s_cmpO h.hu h.eqo (.inr ⟨rfl, rfl⟩) ha hb hm
      · split
        · exact s_cmpI h.hu h.eqs (.inr ⟨rfl, rfl⟩) ha hb hm
        · exact s_cmp h.hu ha hb hm
  · exact s_cmp h.hu ha hb hm
theorem t_cCmp (h : CfgOk g X) {a b : Expr} {op : CmpOp} {pos : Pos} {ia ib : CE} (ha : PE X a (tE X.K (wE ia))) (hb : PE X b (tE X.K (wE ib))) (hm : behindInMarks op b = false) : PT X (.Compare a [op] [b] pos) (tB X.K (wB (.val (cCmp g op ia ib)))) := by
  unfold cCmp
  split
  · split
    · exact t_cmpM h.hu h.eqo h.eqs (.inl ⟨rfl, rfl⟩) ha hb hm
    · split
      · exact t_cmpO h.hu h.eqo (.inl ⟨rfl, rfl⟩) ha hb hm
      · split
        · exact t_cmpI h.hu h.eqs (.inl ⟨rfl, rfl⟩) ha hb hm
        · exact t_cmp h.hu ha hb hm
  · split
    · exact t_cmpM h.hu h.eqo h.eqs (.inr ⟨rfl, rfl⟩) ha hb hm
    · split
      · exact t_cmpO h.hu h.eqo (.inr ⟨rfl, rfl⟩) ha hb hm
      · split
        · exact t_cmpI h.hu h.eqs (.inr ⟨rfl, rfl⟩) ha hb hm
        · exact t_cmp h.hu ha hb hm
  · exact t_cmp h.hu ha hb hm
theorem s_bad {e : Expr} : PE X e (tE X.K (wE .bad)) := ⟨fun pins s σ H Q I ⟨c, h, μ, k, E, rs, rel, w, _⟩ => w.elim⟩
theorem t_bad {e : Expr} : PT X e (tB X.K (wB (.val .bad))) := ⟨fun pins s σ H Q I ⟨c, h, μ, k, E, rs, rel, w, _⟩ => (show False from w).elim⟩
theorem w_bad {e : Expr} : PW X e (tB X.K (wB (.val .bad))) := ⟨fun wh pins s σ H Q I ⟨c, h, μ, k, E, rs, rel, w, _⟩ => (show False from w).elim⟩
theorem a_bad {es : List Expr} {r : CA} : PA X es (tA X.K (wA (.cons .bad r))) := ⟨fun p pins s σ H Q I ⟨c, h, μ, k, E, rs, rel, w, _⟩ => (show False from w).elim⟩
theorem i_bad {tg e : Expr} : PI X tg e (tI X.K (wI (.val .bad))) := ⟨fun pins s σ H Q I ⟨c, h, μ, k, E, rs, rel, w, _⟩ => (show False from w).elim⟩
theorem o_bad {e : Option Expr} : PO X e (tO X.K (wO (.some .bad))) := ⟨fun pins s σ H Q I ⟨c, h, μ, k, E, rs, rel, w, _⟩ => (show False from w).elim⟩
theorem okNm_of {x : Str} (h : okNm x = true) : (x == ("__debug__" : Str)) = false ∧ (x == ("__classdict__" : Str)) = false := by
  unfold okNm at h
  rw [Bool.and_eq_true] at h
  exact ⟨by simpa using h.1, by simpa using h.2⟩
theorem vis_of (h : CfgOk g X) {x : Str} (e : visk g.sc x = true) : Vis X.env.scope x := by
  rw [h.sc]
  unfold visk at e
  split at e
  · exact .inl ‹_›
  · exact .inr (.inl ‹_›)
  · exact .inr (.inr ‹_›)
  · cases e
theorem gl_of (h : CfgOk g X) {x : Str} (e : glk g.sc x = true) : Gl X x := by
  show X.env.scope.names.lookup x = some .globalImplicit
  rw [h.sc]
  unfold glk at e
  split at e
  · assumption
  · cases e
theorem s_name (h : CfgOk g X) (n : Nat) (x : Str) (p : Pos) : PE X (.Name x p) (tE X.K (wE (cE (n + 1) g (.Name x p)))) := by
  unfold cE
  split
  · rename_i q0
    obtain ⟨q1, q2⟩ := okNm_of q0
    split
    · split
      · exact s_var (pe_var (by rw [h.N]; exact ixOf_get ‹_›) (vis_of h ‹_›) q1 q2)
      · exact s_bad
    · split
      · split
        · obtain ⟨u, y, hm, r, rv⟩ := h.tab _ _ ‹_›
          exact s_con (pe_glob (gl_of h ‹_›) hm r q1) rv
        · exact s_bad
      · exact s_bad
  · exact s_bad
theorem s_const (n : Nat) (c : Const) (j : Nat) (p : Pos) : PE X (.Constant c j p) (tE X.K (wE (cE (n + 1) g (.Constant c j p)))) := by
  unfold cE
  split
  · exact s_con pe_non fun _ _ => .non
  · exact s_con pe_bl fun _ _ => .bl _
  · exact s_con pe_int fun _ _ => .int _
  · split
    · exact s_con pe_str fun _ _ => .str (Nat.le_trans ‹_› (by decide))
    · exact s_bad
  · exact s_bad
end
end G

namespace G
open PySem PySem.Spec PyProof.Rows L2
structure Snd (n : Nat) : Prop where
  E : ∀ (g : Cfg) (X : Cx) (e : Expr), CfgOk g X → PE X e (tE X.K (wE (cE n g e)))
  Bo : ∀ (g : Cfg) (X : Cx) (op : BoolOp) (vs : List Expr) (p : Pos), CfgOk g X → PE X (.BoolOp op vs p) (tE X.K (wE (cBo n g op vs)))
  T : ∀ (g : Cfg) (X : Cx) (e : Expr), CfgOk g X → PT X e (tB X.K (wB (cT n g e)))
  To : ∀ (g : Cfg) (X : Cx) (op : BoolOp) (vs : List Expr) (p : Pos), CfgOk g X → PW X (.BoolOp op vs p) (tB X.K (wB (cTo n g op vs)))
  F : ∀ (g : Cfg) (X : Cx) (es : List Expr), CfgOk g X → PTs X es (tB X.K (wB (cF n g es)))
  A : ∀ (g : Cfg) (X : Cx) (es : List Expr), CfgOk g X → PA X es (tA X.K (wA (cA n g es)))
  O : ∀ (g : Cfg) (X : Cx) (e : Option Expr), CfgOk g X → PO X e (tO X.K (wO (cO n g e)))
  I : ∀ (g : Cfg) (X : Cx) (tg e : Expr), CfgOk g X → PI X tg e (tI X.K (wI (cI n g tg e)))
theorem notStar {e : Expr} {t : CT} {n : Nat} {g : Cfg} (h : cG n g e = some t) : ∀ v p, e ≠ .Starred v p := fun v p z => by
  subst z
  cases n <;> (unfold cG at h; cases h)
theorem assignEach_cons {e : Expr} {es : List Expr} {env : Env} (n : ∀ v p, e ≠ .Starred v p) : assignEach (e :: es) env = (false, assign e env) :: assignEach es env := by
  cases e <;> first | rfl | exact absurd rfl (n _ _)
structure SndG (n : Nat) : Prop where
  G : ∀ (g : Cfg) (X : Cx) (e : Expr) (t : CT), CfgOk g X → cG n g e = some t → PG X e (tG X.K t)
  Gs : ∀ (g : Cfg) (X : Cx) (es : List Expr) (t : CTs), CfgOk g X → cGs n g es = some t → PGs X es (tGs X.K t) ∧ (assignEach es X.env).length = ctLen t ∧ (assignEach es X.env).findIdx? (·.1) = none
theorem gs_nil' {g : Cfg} {X : Cx} {t : CTs} (e : some CTs.nil = some t) : PGs X [] (tGs X.K t) ∧ (assignEach [] X.env).length = ctLen t ∧ (assignEach [] X.env).findIdx? (·.1) = none := by
  cases e; exact ⟨gs_nil, rfl, rfl⟩
theorem sndG : ∀ n, SndG n
  | 0 => ⟨fun g X e t h q => by (unfold cG at q; cases q), fun g X es t h q => by
      cases es with
      | nil => unfold cGs at q; exact gs_nil' (g := g) q
      | cons a b => unfold cGs at q; cases q⟩
  | n + 1 => by
    have ih := sndG n
    refine ⟨fun g X e t h q => ?_, fun g X es t h q => ?_⟩
    · unfold cG at q
      split at q <;> try (cases q; done)
      · rename_i q1 q2; cases q1; 
        split at q
        · rename_i z
          cases w : ixOf _ _ with
          | none => rw [w] at q; cases q
          | some i =>
            rw [w] at q; cases q
            obtain ⟨a, b⟩ := h.tg _ z
            exact g_name (pg_name (by rw [h.N]; exact h.nd) (by rw [h.N]; exact ixOf_get w) a b)
        · cases q
      · rename_i q1 q2
        cases q2
        cases w : cGs _ _ _ with
        | none => rw [w] at q; cases q
        | some ts =>
          rw [w] at q; cases q
          obtain ⟨a, b, c⟩ := ih.Gs _ X _ ts h w
          exact g_tup h.calm a b c
    · cases es with
      | nil => unfold cGs at q; exact gs_nil' (g := g) q
      | cons e es =>
        unfold cGs at q
        cases w1 : cG n g e with
        | none => simp [w1] at q
        | some t1 =>
          cases w2 : cGs n g es with
          | none => simp [w1, w2] at q
          | some t2 =>
            simp [w1, w2] at q
            subst q
            obtain ⟨a, b, c⟩ := ih.Gs g X es t2 h w2
            have ns := notStar w1
            refine ⟨gs_cons (ih.G g X e t1 h w1) a (by rw [assignEach_cons ns]; rfl), by rw [assignEach_cons ns]; simp [ctLen, b], ?_⟩
            rw [assignEach_cons ns, List.findIdx?_cons]
            simp [c]
section
variable {X : Cx} {g : Cfg} {n : Nat}
theorem isTrue_dflt {e : Expr} {env : Env} (h1 : ∀ a p, e ≠ .UnaryOp .Not a p) (h2 : ∀ op vs p, e ≠ .BoolOp op vs p) (h3 : ∀ a b c p, e ≠ .IfExp a b c p) (h4 : ∀ a b c p, e ≠ .Compare a b c p) :
    ∀ whole, isTrue e env whole = (do let v ← whole; standAt e.pos; holding [v] (truthy v)) := by
  intro wh
  cases e with
  | UnaryOp op a p => cases op <;> first | rfl | exact absurd rfl (h1 _ _)
  | BoolOp a b c => exact absurd rfl (h2 _ _ _)
  | IfExp a b c d => exact absurd rfl (h3 _ _ _ _)
  | Compare a b c d => exact absurd rfl (h4 _ _ _ _)
  | _ => rfl
theorem plainIx_of {b : Expr} (h : isSlice b = false) : PlainIx b := fun o i => by
  cases b <;> first | rfl | (simp [isSlice] at h)
theorem folded_of {e : Expr} {env : Env} (h : isSet e = false) : ∀ x, foldedSetIterable e env x = pure x := fun x => by
  cases e <;> first | rfl | (simp [isSet] at h)
theorem a_step (ih : Snd n) (h : CfgOk g X) (es : List Expr) : PA X es (tA X.K (wA (cA (n + 1) g es))) := by
  cases es with
  | nil => unfold cA; exact tA_nil
  | cons e es =>
    unfold cA
    split
    · exact a_bad
    · rename_i q
      exact tA_cons (ih.E g X e h) (ih.A g X es h) (starEach_cons (stars_cons (e := e) (es := []) (by simpa using q)).1)
theorem s_tw {e : Expr} {ie : CE} (b : Bool) (he : PE X e (tE X.K (wE ie))) : PE X e (tE X.K (wE (tw b ie))) := by
  cases b
  · exact he
  · exact s_thaw he
theorem s_twa {e : Expr} {ie : CE} (b : Bool) (he : PE X e (tE X.K (wE ie))) : PE X e (tE X.K (wE (twa b ie))) := by
  cases ie <;> first | exact he | exact s_tw b he
theorem at_step (ih : Snd n) (h : CfgOk g X) : ∀ (es : List Expr) (bs : List Bool), PA X es (tA X.K (wA (cAt (cE n g) bs es)))
  | [], bs => by unfold cAt; exact tA_nil
  | e :: es, bs => by
    unfold cAt
    split
    · exact a_bad
    · rename_i q
      exact tA_cons (s_twa _ (ih.E g X e h)) (at_step ih h es _) (starEach_cons (stars_cons (e := e) (es := []) (by simpa using q)).1)
theorem bo_step (ih : Snd n) (h : CfgOk g X) (op : BoolOp) (vs : List Expr) (p : Pos) : PE X (.BoolOp op vs p) (tE X.K (wE (cBo (n + 1) g op vs))) := by
  unfold cBo
  split
  · exact absurd ‹_› (Nat.succ_ne_zero _)
  · rename_i q; cases q; exact pe_one (ih.E _ X _ h)
  · rename_i q; cases q; exact s_and (ih.E _ X _ h) (ih.Bo _ X _ _ p h)
  · rename_i q; cases q; exact s_or (ih.E _ X _ h) (ih.Bo _ X _ _ p h)
  · exact s_bad
theorem to_step (ih : Snd n) (h : CfgOk g X) (op : BoolOp) (vs : List Expr) (p : Pos) : PW X (.BoolOp op vs p) (tB X.K (wB (cTo (n + 1) g op vs))) := by
  unfold cTo
  split
  · exact absurd ‹_› (Nat.succ_ne_zero _)
  · rename_i q; cases q; exact w_one (ih.T _ X _ h)
  · rename_i q; cases q; exact w_and (ih.T _ X _ h) (ih.To _ X _ _ p h)
  · rename_i q; cases q; exact w_or (ih.T _ X _ h) (ih.To _ X _ _ p h)
  · exact w_bad
theorem o_step (ih : Snd n) (h : CfgOk g X) (e : Option Expr) : PO X e (tO X.K (wO (cO (n + 1) g e))) := by
  cases e with
  | none => unfold cO; exact o_none
  | some e => unfold cO; exact o_some (ih.E g X e h)
theorem PTs.imp {es : List Expr} {t t' : TT} (h : PTs X es t) (i : ∀ σ H Q, t' σ H Q → t σ H Q) : PTs X es t' := ⟨fun pins s σ H Q I q => h.run pins s σ H Q I (i σ H Q q)⟩
theorem f_nil : PTs X [] (tB X.K (wB .yes)) := PTs.imp pts_nil fun σ H Q ⟨c, h, μ, k, E, rs, rel, w, hE, ps⟩ => ps _ _ w μ H Ext.refl rel
theorem f_bad {es : List Expr} : PTs X es (tB X.K (wB (.val .bad))) := ⟨fun pins s σ H Q I ⟨c, h, μ, k, E, rs, rel, w, _⟩ => (show False from w).elim⟩
theorem f_step (ih : Snd n) (h : CfgOk g X) (es : List Expr) : PTs X es (tB X.K (wB (cF (n + 1) g es))) := by
  cases es with
  | nil => unfold cF; exact f_nil
  | cons c r =>
    cases r with
    | nil => unfold cF; exact pts_one (ih.T g X c h)
    | cons d r => unfold cF; exact f_bad
theorem t_step (ih : Snd n) (h : CfgOk g X) (e : Expr) : PT X e (tB X.K (wB (cT (n + 1) g e))) := by
  unfold cT
  split
  · exact absurd ‹_› (Nat.succ_ne_zero _)
  · rename_i q; cases q; exact t_not (ih.T _ X _ h)
  · rename_i q; cases q; exact (ih.To _ X _ _ _ h).pt
  · exact t_bad
  · rename_i q; cases q
    split
    · exact t_bad
    · exact t_cCmp h (ih.E _ X _ h) (ih.E _ X _ h) (Bool.of_not_eq_true ‹_›)
  · rename_i q; cases q
    split
    · exact t_bad
    · exact t_chn h.hu (ih.E _ X _ h) (ih.E _ X _ h) (ih.E _ X _ h) (Bool.of_not_eq_true ‹_›)
  · exact t_bad
  · rename_i q h1 h2 h3 h4 h5 h6
    cases q
    exact t_val (ih.E _ X _ h) (isTrue_dflt (fun a p z => h1 a p z) (fun op vs p z => h2 op vs p z) (fun a b c p z => h3 a b c p z) (fun a b c p z => h6 a b c p z))
end
end G

namespace G
open PySem PySem.Spec PyProof.Rows L2
section
variable {X : Cx} {g : Cfg} {n : Nat}
theorem contains_of {l : List Str} {x : Str} (h : l.contains x = true) : x ∈ l := by simpa using h
theorem ty_pe (h : CfgOk g X) {x : Str} {t : Ty} {p : Pos} (e : tyName g x = some t) (hg : Gl X x) (hm : X.mg x = none) (hd : (x == ("__debug__" : Str)) = false) : (t = .int ∨ t = .bool ∨ t = .str ∨ t = .tuple ∨ t = .list) ∧ PE X (.Name x p) (tC (tyV' t)) := by
  have go : ∀ {y : Str} {u v : Ty} {r : Option Ty}, (if x = y then some u else r) = some v → (x = y ∧ v = u) ∨ r = some v := fun {y u v r} e => by
    by_cases q : x = y
    · rw [if_pos q] at e; cases e; exact .inl ⟨q, rfl⟩
    · rw [if_neg q] at e; exact .inr e
  unfold tyName at e
  rcases go e with ⟨rfl, rfl⟩ | e
  · exact ⟨.inl rfl, pe_bltn hg hm (u := .type "int") (by decide +kernel) rfl (by decide) hd⟩
  rcases go e with ⟨rfl, rfl⟩ | e
  · exact ⟨.inr (.inl rfl), pe_bltn hg hm (u := .type "bool") (by decide +kernel) rfl (by decide) hd⟩
  rcases go e with ⟨rfl, rfl⟩ | e
  · exact ⟨.inr (.inr (.inl rfl)), pe_bltn hg hm (u := .type "str") (by decide +kernel) rfl (by decide) hd⟩
  rcases go e with ⟨rfl, rfl⟩ | e
  · exact ⟨.inr (.inr (.inr (.inl rfl))), pe_bltn hg hm (u := .type "tuple") (by decide +kernel) rfl (by decide) hd⟩
  rcases go e with ⟨rfl, rfl⟩ | e
  · exact ⟨.inr (.inr (.inr (.inr rfl))), pe_bltn hg hm (u := .type "list") (by decide +kernel) rfl (by decide) hd⟩
  cases e
theorem bm_of {m : Str} {k : Nat} {b : Bm} (e : bmName m k = some b) : BmOk X m b := by
  have go : ∀ {y : Str} {c : Prop} [Decidable c] {u v : Bm} {r : Option Bm}, (if m = y ∧ c then some u else r) = some v → (m = y ∧ v = u) ∨ r = some v := fun {y c _ u v r} e => by
    by_cases q : m = y ∧ c
    · rw [if_pos q] at e; cases e; exact .inl ⟨q.1, rfl⟩
    · rw [if_neg q] at e; exact .inr e
  unfold bmName at e
  rcases go e with ⟨rfl, rfl⟩ | e; · exact bm_append
  rcases go e with ⟨rfl, rfl⟩ | e; · exact bm_extend
  rcases go e with ⟨rfl, rfl⟩ | e; · exact bm_remove
  rcases go e with ⟨rfl, rfl⟩ | e; · exact bm_pop
  rcases go e with ⟨rfl, rfl⟩ | e; · exact bm_insert
  rcases go e with ⟨rfl, rfl⟩ | e; · exact bm_reverse
  rcases go e with ⟨rfl, rfl⟩ | e; · exact bm_clear
  rcases go e with ⟨rfl, rfl⟩ | e; · exact bm_count
  rcases go e with ⟨rfl, rfl⟩ | e; · exact bm_index
  cases e
theorem blt0_step (ih : Snd n) (h : CfgOk g X) (x : Str) (p pos : Pos) (es : List Expr) (hst : stars es = false) (hg : Gl X x) (hm : X.mg x = none) : PE X (.Call (.Name x p) es [] pos) (tE X.K (wE (cBlt0 (cE n g) x es))) := by
  unfold cBlt0
  split
  · rename_i b eb
    refine s_blt (bltName_ok h.calm eb) hg hm (at_step ih h _ _) hst (fun z => ?_)
    subst z
    revert eb
    have : ∀ x, bltName x 0 = none := fun x => by simp [bltName]
    rw [show ([] : List Expr).length = 0 from rfl, this]
    exact fun z => nomatch z
  · exact s_bad
theorem cv_of {x : Str} (h : (cvName x).isSome = true) : (x = "list" ∧ (cvName x).getD false = false) ∨ (x = "tuple" ∧ (cvName x).getD false = true) := by
  unfold cvName at h ⊢
  by_cases a : x = "list"
  · rw [if_pos a]; exact .inl ⟨a, rfl⟩
  · rw [if_neg a] at h ⊢
    by_cases b : x = "tuple"
    · rw [if_pos b]; exact .inr ⟨b, rfl⟩
    · rw [if_neg b] at h; cases h
theorem rg_of {x y : Str} {es : List Expr} (h : rgOk g x y es = true) : y = "range" ∧ glk g.sc y = true ∧ g.nog.contains y = true ∧ okNm y = true ∧ stars es = false ∧ (cvName x).isSome = true := by
  unfold rgOk at h
  simp only [Bool.and_eq_true, Bool.not_eq_true', beq_iff_eq] at h
  exact ⟨h.1.1.1.1.1, h.1.1.1.1.2, h.1.1.1.2, h.1.1.2, h.1.2, h.2⟩
theorem one_step (ih : Snd n) (h : CfgOk g X) (x : Str) (p pos : Pos) (e : Expr) (hst : stars [e] = false) (hg : Gl X x) (hm : X.mg x = none) : PE X (.Call (.Name x p) [e] [] pos) (tE X.K (wE (cOne (cE n g) g x e))) := by
  unfold cOne
  split
  · rename_i q
    obtain ⟨rfl, _⟩ := q
    exact s_lenI hg hm (ih.E _ X _ h) h.lens hst
  · exact blt0_step ih h x p pos _ hst hg hm
theorem ln_of {x y : Str} {es : List Expr} (h : lnOk g x y es = true) : x = "len" ∧ y = "range" ∧ glk g.sc y = true ∧ g.nog.contains y = true ∧ okNm y = true ∧ stars es = false := by
  unfold lnOk at h
  simp only [Bool.and_eq_true, Bool.not_eq_true', beq_iff_eq] at h
  exact ⟨h.1.1.1.1.1, h.1.1.1.1.2, h.1.1.1.2, h.1.1.2, h.1.2, h.2⟩
theorem blt_step (ih : Snd n) (h : CfgOk g X) (x : Str) (p pos : Pos) (es : List Expr) (hst : stars es = false) (hg : Gl X x) (hm : X.mg x = none) : PE X (.Call (.Name x p) es [] pos) (tE X.K (wE (cBlt (cE n g) g x es))) := by
  unfold cBlt
  split
  · split
    · obtain ⟨rfl, z1, z2, z3, z4, z5⟩ := rg_of ‹_›
      exact s_lrng1 (cv_of z5) h.calm hg hm (gl_of h z1) (h.nog _ (contains_of z2)) (ih.E _ X _ h) z4
    · split
      · obtain ⟨rfl, rfl, z1, z2, z3, z4⟩ := ln_of ‹_›
        exact s_lnrg hg hm (gl_of h z1) (h.nog _ (contains_of z2)) (ih.E _ X _ h) z4 rfl
      · exact one_step ih h x p pos _ hst hg hm
  · split
    · obtain ⟨rfl, z1, z2, z3, z4, z5⟩ := rg_of ‹_›
      exact s_lrng2 (cv_of z5) h.calm hg hm (gl_of h z1) (h.nog _ (contains_of z2)) (ih.E _ X _ h) (ih.E _ X _ h) z4
    · exact one_step ih h x p pos _ hst hg hm
  · split
    · rename_i q5
      obtain ⟨rfl, z2, z3⟩ := q5
      obtain ⟨d3, _⟩ := okNm_of z3
      split
      · rename_i q eq
        obtain ⟨a, b⟩ := h.isiC _ _ eq
        exact s_isi b hg hm (ih.E _ X _ h) (pe_glob (gl_of h z2) a rfl d3) hst
      · split
        · rename_i z1
          split
          · rename_i ty ety
            obtain ⟨a, b⟩ := ty_pe h ety (gl_of h z2) (h.nog _ (contains_of z1)) d3
            exact s_isi (h.icl _ a) hg hm (ih.E _ X _ h) b hst
          · exact s_bad
        · exact s_bad
    · exact blt0_step ih h x p pos _ hst hg hm
  · exact one_step ih h x p pos _ hst hg hm
  · exact blt0_step ih h x p pos _ hst hg hm
theorem s_cl {e : Expr} {ie : CE} (b : Bool) (he : PE X e (tE X.K (wE ie))) : PE X e (tE X.K (wE (cl b ie))) := by
  cases b
  · exact he
  · exact s_cool he
theorem bltk_step (ih : Snd n) (h : CfgOk g X) (x : Str) (p pos : Pos) (es : List Expr) (ks : List Keyword) (hst : stars es = false) (hg : Gl X x) (hm : X.mg x = none) : PE X (.Call (.Name x p) es ks pos) (tE X.K (wE (cBltK (cE n g) x es ks))) := by
  unfold cBltK
  split
  · split
    · rename_i q
      obtain ⟨rfl, rfl⟩ := q
      exact s_maxD h.calm hg hm (ih.E _ X _ h) (ih.E _ X _ h) hst
    · exact s_bad
  · exact s_bad
theorem ak_step (ih : Snd n) (h : CfgOk g X) : ∀ ks : List Keyword, PK X ks (tA X.K (wA (cAk (cE n g) ks)))
  | [] => kA_nil
  | ⟨nm, e, kp⟩ :: ks => kA_cons (ih.E _ X _ h) (ak_step ih h ks)
theorem call_step (ih : Snd n) (h : CfgOk g X) (x : Str) (p pos : Pos) (es : List Expr) (ks : List Keyword) : PE X (.Call (.Name x p) es ks pos) (tE X.K (wE (cE (n + 1) g (.Call (.Name x p) es ks pos)))) := by
  unfold cE cCall
  split
  · exact s_bad
  · rename_i q
    simp only [Bool.or_eq_true, Bool.not_eq_true', not_or, Bool.not_eq_true, Bool.not_eq_false] at q
    obtain ⟨⟨q1, q2⟩, q3⟩ := q
    obtain ⟨d1, d2⟩ := okNm_of q2
    have hg := gl_of h q3
    split
    · split
      · obtain ⟨hm, hk, hp, hq⟩ := h.tab _ _ ‹_›
        split
        · exact s_call (hp _ _ ‹_›) hg hm hk (at_step ih h _ _) (fun e => by rw [e]; rfl) q1 d1
        · split
          · exact s_bad
          · split
            · exact s_callk (hq _ _ _ ‹_›) hg hm hk (at_step ih h _ _) (ak_step ih h []) q1 rfl rfl d1
            · exact s_bad
      · obtain ⟨hm, hp, hq⟩ := h.tab _ _ ‹_›
        split
        · exact s_cl _ (s_new (hp _ _ ‹_›) hg hm (at_step ih h _ _) (fun e => by rw [e]; rfl) q1 d1)
        · split
          · exact s_cl _ (s_newk (hq _ _ _ ‹_›) rfl hg hm (at_step ih h _ _) (fun e => by rw [e]; rfl) (ak_step ih h []) q1 rfl rfl d1)
          · exact s_bad
      · exact s_bad
      · split
        · exact s_bad
        · rename_i q4
          exact blt_step ih h x p pos es q1 hg (h.nog x (contains_of (by simpa using q4)))
    · split
      · exact s_bad
      · rename_i k0 ks0 qk
        have qk : kwOk (k0 :: ks0) = true := by simpa using qk
        split
        · obtain ⟨hm, hk, _, hp⟩ := h.tab _ _ ‹_›
          split
          · split
            · exact s_callk0 (hp _ _ _ ‹_›) hg hm hk (ak_step ih h _) qk rfl d1
            · exact s_bad
          · split
            · exact s_callk (hp _ _ _ ‹_›) hg hm hk (at_step ih h _ _) (ak_step ih h _) q1 qk rfl d1
            · exact s_bad
        · obtain ⟨hm, _, hp⟩ := h.tab _ _ ‹_›
          split
          · exact s_cl _ (s_newk (hp _ _ _ ‹_›) rfl hg hm (at_step ih h _ _) (fun e => by rw [e]; rfl) (ak_step ih h _) q1 qk rfl d1)
          · exact s_bad
        · exact s_bad
        · split
          · exact s_bad
          · rename_i q4
            exact bltk_step ih h x p pos es _ q1 hg (h.nog x (contains_of (by simpa using q4)))
theorem mcall_step (ih : Snd n) (h : CfgOk g X) (o : Expr) (m : Str) (ap pos : Pos) (es : List Expr) : PE X (.Call (.Attribute o m ap) es [] pos) (tE X.K (wE (cE (n + 1) g (.Call (.Attribute o m ap) es [] pos)))) := by
  unfold cE
  split
  · exact s_bad
  · rename_i q
    simp only [Bool.or_eq_true, Bool.not_eq_true', not_or, Bool.not_eq_true, Bool.not_eq_false, decide_eq_false_iff_not, Nat.not_lt] at q
    obtain ⟨⟨⟨q1, q2⟩, q3⟩, q4⟩ := q
    split
    · exact s_mth (ih.E _ X _ h) (h.mths _ _ _ ‹_›) (at_step ih h _ _) (fun e => by rw [e]; rfl) q1 q2 (by omega) q4
    · split
      · exact s_bm (bm_of ‹_›) (ih.E _ X _ h) (at_step ih h _ _) (fun e => by rw [e]; rfl) q1 q2 (by omega) q4
      · exact s_bad
theorem sub_all {l : List Nat} {m : List Nat} (h : (l.all (m.contains ·)) = true) : ∀ i ∈ l, i ∈ m := fun i hi => by
  have := List.all_eq_true.mp h i hi
  simpa using this
theorem lcA_step (ih : Snd n) (h : CfgOk g X) (elt : Expr) (gs : List Comprehension) (scope : Scope) (pos : Pos) : PE X (.ListComp elt gs scope pos) (tE X.K (wE (cE (n + 1) g (.ListComp elt gs scope pos)))) := by
  have hb : ∀ (s : Shared) (H : Hp) (C : Addr) (cl : List (Str × Addr)) (fp : List Addr), CfgOk { g with sc := relS scope g.sc, raw := scope } (X.blk s H scope (compEnvC scope cl C X.env) fp) := fun s H C cl fp => h.blk s H C cl fp scope
  have nd : X.N.Nodup := by rw [h.N]; exact h.nd
  simp only [cE]
  split
  · rename_i tg it ifs k
    split
    · exact s_bad
    · rename_i q
      simp only [Bool.or_eq_true, Bool.not_eq_true', not_or, Bool.not_eq_true, Bool.not_eq_false, decide_eq_true_eq] at q
      obtain ⟨⟨rfl, qb⟩, qs⟩ := q
      split
      · split
        · rename_i t et sub
          have ok : BlkOk X.N X.env.scope scope (ownOf g.N scope) := blkOk_by (by rw [h.N, h.sc]; exact qb)
          exact PE.imp (pe_lc h.calm nd (ih.I g X tg it h) ok (fun s H C cl fp => (sndG n).G _ _ tg t (hb s H C cl fp) et) (fun s H C cl fp => ih.F _ _ ifs (hb s H C cl fp)) (fun s H C cl fp => s_tw _ (ih.E _ _ elt (hb s H C cl fp))) (folded_of qs))
            fun σ H Q w => s_lc (elt := elt) (tg := tg) (iter := it) (ifs := ifs) (scope := scope) (pos := pos) (sub_all sub) w
        · exact s_bad
      · exact s_bad
  · rename_i tg it ifs k tg1 it1 ifs1 k1
    split
    · exact s_bad
    · rename_i q
      simp only [Bool.or_eq_true, Bool.not_eq_true', not_or, Bool.not_eq_true, Bool.not_eq_false, decide_eq_true_eq] at q
      obtain ⟨⟨⟨⟨rfl, rfl⟩, qb⟩, qs⟩, qs1⟩ := q
      split
      · split
        · rename_i t t1 et et1 sub
          rw [Bool.and_eq_true] at sub
          have ok : BlkOk X.N X.env.scope scope (ownOf g.N scope) := blkOk_by (by rw [h.N, h.sc]; exact qb)
          exact PE.imp (pe_lc2 h.calm nd (ih.I g X tg it h) ok (sub_all sub.2) (fun s H C cl fp => (sndG n).G _ _ tg t (hb s H C cl fp) et) (fun s H C cl fp => ih.F _ _ ifs (hb s H C cl fp)) (fun s H C cl fp => ih.I _ _ tg1 it1 (hb s H C cl fp)) (fun s H C cl fp => (sndG n).G _ _ tg1 t1 (hb s H C cl fp) et1)
              (fun s H C cl fp => ih.F _ _ ifs1 (hb s H C cl fp)) (fun s H C cl fp => ih.E _ _ elt (hb s H C cl fp)) (folded_of qs) (fun env => folded_of qs1))
            fun σ H Q w => s_lc2 (elt := elt) (tg := tg) (iter := it) (ifs := ifs) (tg1 := tg1) (iter1 := it1) (ifs1 := ifs1) (scope := scope) (pos := pos) (sub_all sub.1) w
        · exact s_bad
      · exact s_bad
  · exact s_bad
theorem sub_step (ih : Snd n) (h : CfgOk g X) (a b : Expr) (pos : Pos) : PE X (.Subscript a b pos) (tE X.K (wE (cE (n + 1) g (.Subscript a b pos)))) := by
  unfold cE
  split
  all_goals first
    | (rename_i z1 z2; cases z2; done)
    | (rename_i z1; cases z1; done)
    | exact s_bad
    | skip
  · rename_i z1 z2
    cases z2
    cases z1
    exact s_srev (ih.E _ X _ h)
  · rename_i z0 z1 z2
    cases z2
    cases z1
    exact s_sl (ih.E _ X _ h) (ih.O _ X _ h) (ih.O _ X _ h)
  · rename_i z0 z1 z2
    cases z2
    cases z1
    exact s_sl3 (ih.E _ X _ h) (ih.O _ X _ h) (ih.O _ X _ h) (ih.O _ X _ h)
  · rename_i z0 z00 z1 z2
    cases z2
    cases z1
    split
    · exact s_bad
    · exact s_ix (ih.E _ X _ h) (ih.E _ X _ h) (plainIx_of (Bool.of_not_eq_true ‹_›))
end
end G

namespace G
open PySem PySem.Spec PyProof.Rows L2
section
variable {X : Cx} {g : Cfg} {n : Nat}
theorem cmp_step (ih : Snd n) (h : CfgOk g X) (a : Expr) (ops : List CmpOp) (cs : List Expr) (pos : Pos) : PE X (.Compare a ops cs pos) (tE X.K (wE (cE (n + 1) g (.Compare a ops cs pos)))) := by
  unfold cE
  split
  all_goals first
    | (rename_i z1 z2; cases z2; done)
    | (rename_i z1; cases z1; done)
    | exact s_bad
    | skip
  · rename_i z1 z2
    cases z2
    cases z1
    split
    · exact s_bad
    · exact s_cCmp h (ih.E _ X _ h) (ih.E _ X _ h) (Bool.of_not_eq_true ‹_›)
  · rename_i z1 z2
    cases z2
    cases z1
    split
    · exact s_bad
    · exact s_chn h.hu (ih.E _ X _ h) (ih.E _ X _ h) (ih.E _ X _ h) (Bool.of_not_eq_true ‹_›)
theorem callA_step (ih : Snd n) (h : CfgOk g X) (f : Expr) (es : List Expr) (kws : List Keyword) (pos : Pos) : PE X (.Call f es kws pos) (tE X.K (wE (cE (n + 1) g (.Call f es kws pos)))) := by
  cases f with
  | Name x p => exact call_step ih h x p pos es kws
  | Attribute o m ap =>
    cases kws with
    | nil => exact mcall_step ih h o m ap pos es
    | cons k ks => unfold cE; exact s_bad
  | _ => unfold cE; exact s_bad
theorem e_step (ih : Snd n) (h : CfgOk g X) (e : Expr) : PE X e (tE X.K (wE (cE (n + 1) g e))) := by
  cases e with
  | Name x p => exact s_name h n x p
  | Constant c j p => exact s_const n c j p
  | BinOp a op b p => unfold cE; exact s_bin (ih.E _ X _ h) (ih.E _ X _ h)
  | UnaryOp op a p =>
    cases op with
    | USub => unfold cE; exact s_neg (ih.E _ X _ h)
    | Not => unfold cE; exact s_not (ih.E _ X _ h)
    | _ => unfold cE; exact s_bad
  | BoolOp op vs p => unfold cE; exact ih.Bo _ X _ _ p h
  | IfExp t a b p => unfold cE; exact s_ife (ih.T _ X _ h) (ih.E _ X _ h) (ih.E _ X _ h)
  | Tuple es k p => unfold cE; exact s_tup (ih.A _ X _ h)
  | List es p => unfold cE; exact s_lst (at_step ih h _ _)
  | Attribute o f p =>
    unfold cE
    split
    · exact s_bad
    · split
      · exact s_fld (ih.E _ X _ h) (h.flds _ _ ‹_›) (Bool.of_not_eq_true ‹_›)
      · exact s_bad
  | Subscript a b p => exact sub_step ih h a b p
  | Compare a ops cs p => exact cmp_step ih h a ops cs p
  | Call f es kws p => exact callA_step ih h f es kws p
  | ListComp elt gs sc p => exact lcA_step ih h elt gs sc p
  | _ => unfold cE; exact s_bad
theorem i_call (ih : Snd n) (h : CfgOk g X) (tg : Expr) (x : Str) (p : Pos) (es : List Expr) (q : Pos) : PI X tg (.Call (.Name x p) es [] q) (tI X.K (wI (cI (n + 1) g tg (.Call (.Name x p) es [] q)))) := by
  unfold cI
  split
  · rename_i z
    obtain ⟨rfl, z1, z2, z3⟩ := z
    split
    · exact i_rng1 (gl_of h z1) (h.nog _ (contains_of z2)) (ih.E _ X _ h) z3
    · exact i_rng2 (gl_of h z1) (h.nog _ (contains_of z2)) (ih.E _ X _ h) (ih.E _ X _ h) z3
    · exact i_rng3 (gl_of h z1) (h.nog _ (contains_of z2)) (ih.E _ X _ h) (ih.E _ X _ h) (ih.E _ X _ h) z3
    · exact i_bad
  · split
    · rename_i z
      obtain ⟨rfl, z1, z2, z3, z4⟩ := z
      split
      · split
        · rename_i z5
          obtain ⟨rfl, y1, y2, y3⟩ := z5
          cases tg <;> first | (simp [isTup] at z4; done) | exact i_enz (gl_of h y1) (h.nog _ (contains_of y2)) (gl_of h z1) (h.nog _ (contains_of z2)) (ih.E _ X _ h) (ih.E _ X _ h) y3
        · exact i_bad
      · cases tg <;> first | (simp [isTup] at z4; done) | exact i_enum (gl_of h z1) (h.nog _ (contains_of z2)) (ih.E _ X _ h) z3
      · exact i_bad
    · split
      · rename_i z
        obtain ⟨rfl, z1, z2, z3, z4⟩ := z
        split
        · cases tg <;> first | (simp [isTup] at z4; done) | exact i_zip (gl_of h z1) (h.nog _ (contains_of z2)) (ih.E _ X _ h) (ih.E _ X _ h) z3
        · exact i_bad
      · split
        · rename_i z
          obtain ⟨rfl, z1, z2, z3⟩ := z
          split
          · exact i_rev (gl_of h z1) (h.nog _ (contains_of z2)) (ih.E _ X _ h) z3
          · exact i_bad
        · exact i_val (ih.E _ X _ h)
theorem i_step (ih : Snd n) (h : CfgOk g X) (tg e : Expr) : PI X tg e (tI X.K (wI (cI (n + 1) g tg e))) := by
  cases e with
  | Call f es kws p =>
    cases kws with
    | nil =>
      cases f with
      | Name x q => exact i_call ih h tg x q es p
      | _ => unfold cI; exact i_val (ih.E _ X _ h)
    | cons k ks => cases f <;> (unfold cI; exact i_val (ih.E _ X _ h))
  | _ => unfold cI; exact i_val (ih.E _ X _ h)
end
theorem snd : ∀ n, Snd n
  | 0 => {
      E := fun g X e h => by unfold cE; exact s_bad
      Bo := fun g X op vs p h => by unfold cBo; exact s_bad
      T := fun g X e h => by unfold cT; exact t_bad
      To := fun g X op vs p h => by unfold cTo; exact w_bad
      F := fun g X es h => by
        cases es with
        | nil => unfold cF; exact f_nil
        | cons a b => unfold cF; exact f_bad
      A := fun g X es h => by
        cases es with
        | nil => unfold cA; exact tA_nil
        | cons a b => unfold cA; exact a_bad
      O := fun g X e h => by
        cases e with
        | none => unfold cO; exact o_none
        | some e => unfold cO; exact o_bad
      I := fun g X tg e h => by unfold cI; exact i_bad }
  | n + 1 => {
      E := fun g X e h => e_step (snd n) h e
      Bo := fun g X op vs p h => bo_step (snd n) h op vs p
      T := fun g X e h => t_step (snd n) h e
      To := fun g X op vs p h => to_step (snd n) h op vs p
      F := fun g X es h => f_step (snd n) h es
      A := fun g X es h => a_step (snd n) h es
      O := fun g X e h => o_step (snd n) h e
      I := fun g X tg e h => i_step (snd n) h tg e }
end G

namespace G
open PySem PySem.Spec PyProof.Rows L2
def bkF (sc : Scope) : Bool := (if sc.kind.isAnnotationScope then ScopeKind.function else sc.kind) == .function
/-- whether name = [..] takes the road of its own -/
def swF (sc : Scope) (t : Str) (l : Bool) (scope : Scope) : Bool := bkF sc && sc.names.lookup t == some .local && l && !(scope.names.any fun (n, k) => n == t && (k == .local || k == .cell))
def isDoc : Expr → Bool
  | .Constant (.str _) _ _ => true
  | _ => false
def parOk (g : Cfg) (l : List (Str × Pos)) (vs : List Expr) : Bool := bkF g.sc && (l.all fun q => g.sc.names.lookup q.1 == some .local && q.2.line == (l.head?.map (·.2.line)).getD 0) && !stars vs && !(vs.all (foldedForSure 8)) && !(vs.all (constantsAlone 8))
/-- names that are no fast locals -/
def parNo (g : Cfg) (l : List Str) : Bool := l.all (tgk g.raw) && l.any fun x => !(g.sc.names.lookup x == some .local)
def cStar (g : Cfg) (es : List Expr) (ie : CE) : CS := match es with
  | [.Name x _, .Starred (.Name y _) _] => (match ixOf g.N x, ixOf g.N y with
    | some i, some j => if tgk g.raw x && tgk g.raw y && !g.mutn.contains y then .asgS i j ie else .bad
    | _, _ => .bad)
  | _ => .bad
def cPar (f : Expr → CE) (g : Cfg) (es vs : List Expr) : CS := match es, vs with
  | [.Name x px, .Name y py], [a, b] => (match ixOf g.N x, ixOf g.N y with
    | some i, some j => if x ≠ y ∧ i ≠ j ∧ parOk g [(x, px), (y, py)] [a, b] = true then .asgD [i, j] (cAt f [g.mutn.contains x, g.mutn.contains y] [a, b]) else if parNo g [x, y] then .asgD [i, j] (cAt f [g.mutn.contains x, g.mutn.contains y] [a, b]) else .bad
    | _, _ => .bad)
  | [.Name x px, .Name y py, .Name z pz], [a, b, c] => (match ixOf g.N x, ixOf g.N y, ixOf g.N z with
    | some i, some j, some l => if (x ≠ y ∧ x ≠ z ∧ y ≠ z) ∧ (i ≠ j ∧ i ≠ l ∧ j ≠ l) ∧ parOk g [(x, px), (y, py), (z, pz)] [a, b, c] = true then .asgD [i, j, l] (cAt f [g.mutn.contains x, g.mutn.contains y, g.mutn.contains z] [a, b, c]) else if parNo g [x, y, z] then .asgD [i, j, l] (cAt f [g.mutn.contains x, g.mutn.contains y, g.mutn.contains z] [a, b, c]) else .bad
    | _, _, _ => .bad)
  | _, _ => .bad
mutual
def cS : Nat → Cfg → Stmt → CS
  | 0, _, _ => .bad
  | n + 1, g, .Return (some e) _ => .ret (cE n g e)
  | n + 1, g, .Return none _ => .ret (.con .non)
  | n + 1, g, .Assign [.Name x _] e _ => if tgk g.raw x then (match ixOf g.N x with
      | some i => .asg i (tw (g.mutn.contains x) (cE n g e))
      | none => .bad) else .bad
  | n + 1, g, .Assign [.Tuple es _ _] (.Tuple vs _ _) _ => cPar (cE n g) g es vs
  | n + 1, g, .Assign [.Tuple es _ _] e _ => if isTup e then .bad else (match cGs n g es with
      | some ts => .asgT (.tup ts) (cE n g e)
      | none => cStar g es (cE n g e))
  | n + 1, g, .Assign [.Subscript o i _] e _ => if isSlice i then .bad else .setIx (cE n g o) (cE n g i) (cE n g e)
  | n + 1, g, .Assign [.Attribute o f _] e _ => (match g.flds.lookup f with
      | some cs => .setFld (cE n g o) f cs (tw (g.mutf.contains f) (cE n g e))
      | none => .bad)
  | n + 1, g, .AugAssign (.Name x _) op e _ => if tgk g.raw x then (match ixOf g.N x with
      | some i => .aug op i (cE n g e)
      | none => .bad) else .bad
  | n + 1, g, .AugAssign (.Attribute o f _) op e _ => (match g.flds.lookup f with
      | some cs => .augFld op (cE n g o) f cs (cE n g e)
      | none => .bad)
  | n + 1, g, .Expr e _ => if isDoc e then .skip else if isLc e then .bad else .ex (cE n g e)
  | n + 1, g, .If t a b _ => .ife (cT n g t) (cSs n g a) (cSs n g b)
  | n + 1, g, .For tg it body [] _ => if isSet it then .bad else (match cG n g tg with
      | some t => .forr t (cI n g tg it) (cSs n g body)
      | none => .bad)
  | n + 1, g, .While t body [] _ => .whl (cT n g t) (cSs n g body)
  | n + 1, g, .Break _ => .brk
  | n + 1, g, .Continue _ => .cont
  | n + 1, g, .Pass _ => .skip
  | _, _, _ => .bad
def cSs : Nat → Cfg → List Stmt → CS
  | _, _, [] => .skip
  | 0, _, _ => .bad
  | n + 1, g, [s] => cS n g s
  | n + 1, g, s :: r => .seq (cS n g s) (cSs n g r)
end
section
variable {X : Cx} {g : Cfg} {n : Nat}
theorem sw_no {e : Expr} {t : Option Expr} {l : Nat} {env : Env} (h : isLc e = false) : swapsWith e t l env = pure false := by
  cases e <;> first | rfl | (simp [isLc] at h)
theorem sw_tgt {e : Expr} {t : Expr} {l : Nat} {env : Env} (h : ∀ x p, t ≠ .Name x p) : swapsWith e (some t) l env = pure false := by
  cases e <;> first | rfl | (cases t <;> first | rfl | exact absurd rfl (h _ _))
theorem sw_lc {elt : Expr} {gs : List Comprehension} {scope : Scope} {pos p : Pos} {x : Str} {l : Nat} {env : Env} : swapsWith (.ListComp elt gs scope pos) (some (.Name x p)) l env = pure (swF env.scope x (p.line == pos.line) scope) := rfl
/-- what is done with a value that gets a name -/
def asgK (b : Bool) (i : Nat) (c : CSt) (C : CEnds) : WQ := fun r h => match b, r with
  | true, .al xs => C.nx (sv c i (.ref h.length)) (h ++ [.lst xs])
  | _, r => adopt r h fun x h2 => C.nx (sv c i x) h2
theorem asg_tw {b : Bool} {i : Nat} {e : CE} {c : CSt} {h : CH} {C : CEnds} (w : wS (.asg i (tw b e)) C c h) : wE e c h (asgK b i c C) C.ex := by
  cases b with
  | false =>
    have w' : wE e c h (fun r h1 => adopt r h1 fun x h2 => C.nx (sv c i x) h2) C.ex := w
    have : asgK false i c C = fun r h1 => adopt r h1 fun x h2 => C.nx (sv c i x) h2 := by
      funext r h1; cases r <;> rfl
    rw [this]; exact w'
  | true =>
    have w' : wE e c h (fun r h1 => match r with
      | .al xs => (fun r h1 => adopt r h1 fun x h2 => C.nx (sv c i x) h2) (.v (.ref h1.length)) (h1 ++ [.lst xs])
      | .v x => (fun r h1 => adopt r h1 fun x h2 => C.nx (sv c i x) h2) (.v x) h1) C.ex := w
    have : asgK true i c C = (fun r h1 => match r with
      | .al xs => (fun r h1 => adopt r h1 fun x h2 => C.nx (sv c i x) h2) (.v (.ref h1.length)) (h1 ++ [.lst xs])
      | .v x => (fun r h1 => adopt r h1 fun x h2 => C.nx (sv c i x) h2) (.v x) h1) := by
      funext r h1; cases r <;> rfl
    rw [this]; exact w'
theorem asg_tw_end {b : Bool} {K : PySem.W.Frag} {H H0 : Hp} {μ μ0 : Mu} {h : CH} {C : CEnds} {D : Ends} {c : CSt} {σ : L2.St} {i : Nat} {r : CR} {x : V} (o : EndOk K H0 μ0 C D) (e : Ext H0 μ0 H μ) (rel : Rel K μ h H) (rs : RS K H μ c σ) (rr : RR K H0 H μ r x) (w : asgK b i c C r h) : D.nx (σ.set i (some x)) H := by
  cases b with
  | false =>
    refine asg_end o e rel rs rr ?_
    cases r <;> exact w
  | true =>
    cases r with
    | v d => exact asg_end (r := .v d) o e rel rs rr w
    | al xs =>
      obtain ⟨p, vs, rfl, f, n, hp, rv⟩ := rr
      have rel2 := rel.adopt n hp rv
      have m : More H μ (μ.add p) p := more_add (lst_np hp)
      have rs2 : RS K H (μ.add p) c σ := ⟨rs.len, fun i x e => let ⟨v, a, b⟩ := rs.at_ i x e; ⟨v, a, b.more m⟩⟩
      refine o.nx _ _ w (μ.add p) H _ (ext_add e f) rel2 (rs2.put (.ref ?_))
      rw [← rel.len]
      simp [Mu.add]
/-- name = [elt for ..] on the road of its own -/
theorem asg_lc (b : Bool) (h : CfgOk g X) (x : Str) (p q pos : Pos) (elt : Expr) (gs : List Comprehension) (scope : Scope) (i : Nat) (hi : X.N[i]? = some x) (hl : X.env.scope.names.lookup x = some .local)
    (hsw : swapsWith (.ListComp elt gs scope q) (some (.Name x p)) pos.line X.env = pure true) :
    PS X (.Assign [.Name x p] (.ListComp elt gs scope q) pos) (tS X.K (wS (.asg i (tw b (cE (n + 1) g (.ListComp elt gs scope q)))))) := by
  have bad : PS X (.Assign [.Name x p] (.ListComp elt gs scope q) pos) (tS X.K (wS (.asg i (tw b .bad)))) := ⟨fun pins s σ H D I ⟨c, h, μ, C, rs, rel, w, o⟩ => by cases b <;> exact (show False from w).elim⟩
  have hb : ∀ (s : Shared) (H : Hp) (C : Addr) (cl : List (Str × Addr)) (fp : List Addr), CfgOk { g with sc := relS scope g.sc, raw := scope } (X.blk s H scope (compEnvC scope cl C X.env) fp) := fun s H C cl fp => h.blk s H C cl fp scope
  have nd : X.N.Nodup := by rw [h.N]; exact h.nd
  simp only [cE]
  split
  · rename_i tg it ifs k
    split
    · exact bad
    · rename_i z
      simp only [Bool.or_eq_true, Bool.not_eq_true', not_or, Bool.not_eq_true, Bool.not_eq_false, decide_eq_true_eq] at z
      obtain ⟨⟨rfl, qb⟩, qs⟩ := z
      split
      · split
        · rename_i t et sub
          have ok : BlkOk X.N X.env.scope scope (ownOf g.N scope) := blkOk_by (by rw [h.N, h.sc]; exact qb)
          refine PS.imp (ps_setLc h.calm nd hi hl hsw ((snd n).I g X tg it h) ok (fun s H C cl fp => (show PG _ tg (tG X.K t) from (sndG n).G _ _ tg t (hb s H C cl fp) et)) (fun s H C cl fp => (show PTs _ ifs (tB X.K (wB (cF n { g with sc := relS scope g.sc, raw := scope } ifs))) from (snd n).F _ _ ifs (hb s H C cl fp)))
            (fun s H C cl fp => (show PE _ elt (tE X.K (wE (tw g.nest (cE n { g with sc := relS scope g.sc, raw := scope } elt)))) from s_tw _ ((snd n).E _ _ elt (hb s H C cl fp)))) (folded_of qs)) fun D σ H ⟨c, h, μ, C, rs, rel, w, o⟩ => ?_
          exact s_lc (elt := elt) (tg := tg) (iter := it) (ifs := ifs) (scope := scope) (pos := pos) (sub_all sub) ⟨c, h, μ, _, _, rs, rel, asg_tw w, o.ex, fun r h' w' μ' H' x e' rel' rr => asg_tw_end o e' rel' (rs.ext e') rr w'⟩
        · exact bad
      · exact bad
  · rename_i tg it ifs k tg1 it1 ifs1 k1
    split
    · exact bad
    · rename_i z
      simp only [Bool.or_eq_true, Bool.not_eq_true', not_or, Bool.not_eq_true, Bool.not_eq_false, decide_eq_true_eq] at z
      obtain ⟨⟨⟨⟨rfl, rfl⟩, qb⟩, qs⟩, qs1⟩ := z
      split
      · split
        · rename_i t t1 et et1 sub
          rw [Bool.and_eq_true] at sub
          have ok : BlkOk X.N X.env.scope scope (ownOf g.N scope) := blkOk_by (by rw [h.N, h.sc]; exact qb)
          refine PS.imp (ps_setLc2 h.calm nd hi hl hsw ((snd n).I g X tg it h) ok (sub_all sub.2) (fun s H C cl fp => (show PG _ tg (tG X.K t) from (sndG n).G _ _ tg t (hb s H C cl fp) et)) (fun s H C cl fp => (show PTs _ ifs (tB X.K (wB (cF n { g with sc := relS scope g.sc, raw := scope } ifs))) from (snd n).F _ _ ifs (hb s H C cl fp)))
            (fun s H C cl fp => (show PI _ tg1 it1 (tI X.K (wI (cI n { g with sc := relS scope g.sc, raw := scope } tg1 it1))) from (snd n).I _ _ tg1 it1 (hb s H C cl fp))) (fun s H C cl fp => (show PG _ tg1 (tG X.K t1) from (sndG n).G _ _ tg1 t1 (hb s H C cl fp) et1)) (fun s H C cl fp => (show PTs _ ifs1 (tB X.K (wB (cF n { g with sc := relS scope g.sc, raw := scope } ifs1))) from (snd n).F _ _ ifs1 (hb s H C cl fp)))
            (fun s H C cl fp => (show PE _ elt (tE X.K (wE (cE n { g with sc := relS scope g.sc, raw := scope } elt))) from (snd n).E _ _ elt (hb s H C cl fp))) (folded_of qs) (fun env => folded_of qs1)) fun D σ H ⟨c, h, μ, C, rs, rel, w, o⟩ => ?_
          exact s_lc2 (elt := elt) (tg := tg) (iter := it) (ifs := ifs) (tg1 := tg1) (iter1 := it1) (ifs1 := ifs1) (scope := scope) (pos := pos) (sub_all sub.1) ⟨c, h, μ, _, _, rs, rel, asg_tw w, o.ex, fun r h' w' μ' H' x e' rel' rr => asg_tw_end o e' rel' (rs.ext e') rr w'⟩
        · exact bad
      · exact bad
  · exact bad
theorem bad_asg {b : Bool} {x : Str} {p pos : Pos} {e : Expr} {i : Nat} : PS X (.Assign [.Name x p] e pos) (tS X.K (wS (.asg i (tw b .bad)))) := ⟨fun pins s σ H D I ⟨c, h, μ, C, rs, rel, w, o⟩ => by cases b <;> exact (show False from w).elim⟩
theorem asg_step (h : CfgOk g X) (x : Str) (p : Pos) (e : Expr) (pos : Pos) : PS X (.Assign [.Name x p] e pos) (tS X.K (wS (cS (n + 1) g (.Assign [.Name x p] e pos)))) := by
  unfold cS
  split
  · rename_i z
    obtain ⟨a, b⟩ := h.tg _ z
    split
    · rename_i i ei
      have hi : X.N[i]? = some x := by rw [h.N]; exact ixOf_get ei
      have nd : X.N.Nodup := by rw [h.N]; exact h.nd
      by_cases hl : isLc e = true
      · -- a comprehension
        cases e with
        | ListComp elt gs scope q =>
          by_cases sw : swF X.env.scope x (p.line == q.line) scope = true
          · have hsw : swapsWith (.ListComp elt gs scope q) (some (.Name x p)) pos.line X.env = pure true := by rw [sw_lc, sw]
            have hloc : X.env.scope.names.lookup x = some .local := by
              unfold swF at sw
              simp only [Bool.and_eq_true] at sw
              simpa using sw.1.1.2
            cases n with
            | zero => unfold cE; exact bad_asg
            | succ n => exact asg_lc _ h x p q pos elt gs scope i hi hloc hsw
          · have hsw : swapsWith (.ListComp elt gs scope q) (some (.Name x p)) pos.line X.env = pure false := by rw [sw_lc, Bool.of_not_eq_true sw]
            exact b_set (fun te he => ps_set nd hi a he hsw b) (s_tw _ ((snd n).E g X _ h))
        | _ => first | (simp [isLc] at hl; done) | (cases n <;> (unfold cE; exact bad_asg))
      · exact b_set (fun te he => ps_set nd hi a he (sw_no (Bool.of_not_eq_true hl)) b) (s_tw _ ((snd n).E g X e h))
    · exact b_never
  · exact b_never
theorem sub_asg (o i : Expr) (p : Pos) (env : Env) (hi : isSlice i = false) : ∀ v, assign (.Subscript o i p) env v = (do
      let ov ← holding [v] (eval o env)
      let iv ← holding [v, ov] (eval i env)
      standAt p
      holding [v, ov, iv] (setItem ov iv v)
      release [v, ov, iv] []) := fun v => by
  cases i <;> first | rfl | (simp [isSlice] at hi)
theorem swp_sub {o i e : Expr} {p : Pos} {env : Env} : swappedStores [.Subscript o i p] e env = pure none := rfl
theorem swp_tup {es : List Expr} {k : Nat} {p : Pos} {e : Expr} {env : Env} (h : isTup e = false) : swappedStores [.Tuple es k p] e env = pure none := by
  cases e <;> first | rfl | (simp [isTup] at h)
theorem sw_tup {es : List Expr} {k : Nat} {q : Pos} {e : Expr} {l : Nat} {env : Env} : swapsWithSole [.Tuple es k q] e l env = pure false := sw_tgt (l := l) (env := env) (e := e) (t := .Tuple es k q) (fun _ _ z => by cases z)
theorem sw_sub {o i : Expr} {q : Pos} {e : Expr} {l : Nat} {env : Env} : swapsWithSole [.Subscript o i q] e l env = pure false := sw_tgt (l := l) (env := env) (e := e) (t := .Subscript o i q) (fun _ _ z => by cases z)
theorem sw_atr {o : Expr} {f : Str} {q : Pos} {e : Expr} {l : Nat} {env : Env} : swapsWithSole [.Attribute o f q] e l env = pure false := sw_tgt (l := l) (env := env) (e := e) (t := .Attribute o f q) (fun _ _ z => by cases z)
structure SndS (n : Nat) : Prop where
  S : ∀ (g : Cfg) (X : Cx) (s : Stmt), CfgOk g X → PS X s (tS X.K (wS (cS n g s)))
  Ss : ∀ (g : Cfg) (X : Cx) (s : List Stmt), CfgOk g X → PSs X s (tS X.K (wS (cSs n g s)))
theorem bb_never {s : List Stmt} : PSs X s (tS X.K (wS .bad)) := ⟨fun pins s σ H D I ⟨c, h, μ, C, rs, rel, w, o⟩ => (show False from w).elim⟩
theorem foldedF_not {vs : List Expr} (h : stars vs = false) : (vs.any fun | .Starred .. => true | _ => false) = false := by
  induction vs with
  | nil => rfl
  | cons e es ih =>
    obtain ⟨a, b⟩ := stars_cons h
    rw [List.any_cons, ih b]
    cases e <;> first | rfl | exact absurd rfl (a _ _)
theorem bk_of {env : Env} (h : bkF env.scope = true) : env.blockKind = .function := by
  unfold bkF at h
  unfold Env.blockKind
  simpa using h
theorem b_par2 {i j : Nat} {x y : Str} {a b : Expr} {ia : CA} {px py pt pos : Pos} {kt k2 pt2} (hc : X.calm = true) (hN : X.N.Nodup) (hi : X.N[i]? = some x) (hj : X.N[j]? = some y) (hij : i ≠ j)
    (hx : X.env.scope.names.lookup x = some .local) (hy : X.env.scope.names.lookup y = some .local) (ha : PA X [a, b] (tA X.K (wA ia)))
    (hw : swappedStores [.Tuple [.Name x px, .Name y py] kt pt] (.Tuple [a, b] k2 pt2) X.env = pure (some [x, y])) :
    PS X (.Assign [.Tuple [.Name x px, .Name y py] kt pt] (.Tuple [a, b] k2 pt2) pos) (tS X.K (wS (.asgD [i, j] ia))) :=
  PS.imp (ps_par hc hN hi hj hij hx hy ha hw rfl) fun D σ H ⟨c, h, μ, C, rs, rel, w, o⟩ => by
    refine ⟨c, h, μ, _, _, rs, rel, w, o.ex, fun rs2 h2 w2 μ2 H2 xs e2 rel2 rr2 => ?_⟩
    obtain ⟨cs, h3, μ3, ⟨hl, w3⟩, e3, rel3, rv, up⟩ := adopts_ok e2 rel2 rr2 w2
    cases rv with
    | nil => cases hl
    | cons r1 rv =>
      cases rv with
      | nil => cases hl
      | cons r2 rv =>
        cases rv with
        | cons _ _ => cases hl
        | nil => exact ⟨_, _, rfl, o.nx _ _ w3 μ3 H2 _ e3 rel3 (((up_rs up (rs.ext e2)).put r1).put r2)⟩
theorem b_par3 {i j l : Nat} {x y z : Str} {a b d : Expr} {ia : CA} {px py pz pt pos : Pos} {kt k2 pt2} (hc : X.calm = true) (hN : X.N.Nodup) (hi : X.N[i]? = some x) (hj : X.N[j]? = some y) (hk : X.N[l]? = some z) (hij : i ≠ j) (hil : i ≠ l) (hjl : j ≠ l)
    (hx : X.env.scope.names.lookup x = some .local) (hy : X.env.scope.names.lookup y = some .local) (hz : X.env.scope.names.lookup z = some .local) (ha : PA X [a, b, d] (tA X.K (wA ia)))
    (hw : swappedStores [.Tuple [.Name x px, .Name y py, .Name z pz] kt pt] (.Tuple [a, b, d] k2 pt2) X.env = pure (some [x, y, z])) :
    PS X (.Assign [.Tuple [.Name x px, .Name y py, .Name z pz] kt pt] (.Tuple [a, b, d] k2 pt2) pos) (tS X.K (wS (.asgD [i, j, l] ia))) :=
  PS.imp (ps_par3 hc hN hi hj hk hij hil hjl hx hy hz ha hw rfl) fun D σ H ⟨c, h, μ, C, rs, rel, w, o⟩ => by
    refine ⟨c, h, μ, _, _, rs, rel, w, o.ex, fun rs2 h2 w2 μ2 H2 xs e2 rel2 rr2 => ?_⟩
    obtain ⟨cs, h3, μ3, ⟨hl, w3⟩, e3, rel3, rv, up⟩ := adopts_ok e2 rel2 rr2 w2
    cases rv with
    | nil => cases hl
    | cons r1 rv =>
      cases rv with
      | nil => cases hl
      | cons r2 rv =>
        cases rv with
        | nil => cases hl
        | cons r3 rv =>
          cases rv with
          | cons _ _ => cases hl
          | nil => exact ⟨_, _, _, rfl, o.nx _ _ w3 μ3 H2 _ e3 rel3 ((((up_rs up (rs.ext e2)).put r1).put r2).put r3)⟩
theorem par_of {l : List (Str × Pos)} {vs : List Expr} (h : parOk g l vs = true) : bkF g.sc = true ∧ (∀ q ∈ l, g.sc.names.lookup q.1 = some .local ∧ q.2.line = (l.head?.map (·.2.line)).getD 0) ∧ stars vs = false ∧ vs.all (foldedForSure 8) = false ∧ vs.all (constantsAlone 8) = false := by
  unfold parOk at h
  simp only [Bool.and_eq_true, Bool.not_eq_true'] at h
  refine ⟨h.1.1.1.1, fun q hq => ?_, h.1.1.2, h.1.2, h.2⟩
  have := List.all_eq_true.mp h.1.1.1.2 q hq
  simpa using this
theorem swp2 {env : Env} {x y : Str} {px py pt pt2 : Pos} {kt k2 : Nat} {a b : Expr} (hb : env.blockKind = .function) (hx : env.scope.names.lookup x = some .local) (hy : env.scope.names.lookup y = some .local) (hl : py.line = px.line) (hne : x ≠ y)
    (hs : stars [a, b] = false) (hf : [a, b].all (foldedForSure 8) = false) (hc : [a, b].all (constantsAlone 8) = false) : swappedStores [.Tuple [.Name x px, .Name y py] kt pt] (.Tuple [a, b] k2 pt2) env = pure (some [x, y]) := by
  have kx : env.kindOf x = some .local := hx
  have ky : env.kindOf y = some .local := hy
  have e1 := foldedF_not hs
  have e2 : (Expr.Name x px).pos = px := rfl
  have e3 : [x, y].eraseDups = [x, y] := by
    rw [List.eraseDups_cons]; simp [List.eraseDups_cons, hne, Ne.symm hne]
  unfold swappedStores
  simp only []
  rw [hb]
  refine (if_neg (by simp)).trans ((if_neg (fun z => Bool.noConfusion (e1.symm.trans z))).trans ((if_neg ?_).trans ((if_neg (by rw [hf]; decide)).trans ((if_neg (by rw [hc]; decide)).trans ?_))))
  · simp [kx, ky, hl, e2, e3]
  · simp [kx, ky, hl, e2]
theorem swp3 {env : Env} {x y z : Str} {px py pz pt pt2 : Pos} {kt k2 : Nat} {a b c : Expr} (hb : env.blockKind = .function) (hx : env.scope.names.lookup x = some .local) (hy : env.scope.names.lookup y = some .local) (hz : env.scope.names.lookup z = some .local) (hl : py.line = px.line) (hl2 : pz.line = px.line) (hne : x ≠ y) (hne2 : x ≠ z) (hne3 : y ≠ z)
    (hs : stars [a, b, c] = false) (hf : [a, b, c].all (foldedForSure 8) = false) (hc : [a, b, c].all (constantsAlone 8) = false) : swappedStores [.Tuple [.Name x px, .Name y py, .Name z pz] kt pt] (.Tuple [a, b, c] k2 pt2) env = pure (some [x, y, z]) := by
  have kx : env.kindOf x = some .local := hx
  have ky : env.kindOf y = some .local := hy
  have kz : env.kindOf z = some .local := hz
  have e1 := foldedF_not hs
  have e2 : (Expr.Name x px).pos = px := rfl
  have e3 : [x, y, z].eraseDups = [x, y, z] := by
    rw [List.eraseDups_cons]; simp [List.eraseDups_cons, hne, Ne.symm hne, hne2, Ne.symm hne2, hne3, Ne.symm hne3]
  unfold swappedStores
  simp only []
  rw [hb]
  refine (if_neg (by simp)).trans ((if_neg (fun z => Bool.noConfusion (e1.symm.trans z))).trans ((if_neg ?_).trans ((if_neg (by rw [hf]; decide)).trans ((if_neg (by rw [hc]; decide)).trans ?_))))
  · simp [kx, ky, kz, hl, hl2, e2, e3]
  · simp [kx, ky, kz, hl, hl2, e2]
theorem fm_lt {α β : Type} {f : α → Option β} {x : α} (h : f x = none) : ∀ {l : List α}, x ∈ l → (l.filterMap f).length < l.length
  | a :: l, m => by
    rw [List.filterMap_cons]
    rcases List.mem_cons.mp m with e | m
    · subst e
      rw [h]
      exact Nat.lt_succ_of_le (List.length_filterMap_le ..)
    · have := fm_lt h m
      cases f a with
      | none => exact Nat.lt_succ_of_lt this
      | some b => exact Nat.succ_lt_succ this
theorem swp0 {env : Env} {es vs : List Expr} {x : Str} {px pt pt2 : Pos} {kt k2 : Nat} (hm : Expr.Name x px ∈ es) (hx : env.scope.names.lookup x ≠ some .local) : swappedStores [.Tuple es kt pt] (.Tuple vs k2 pt2) env = pure none := by
  unfold swappedStores
  simp only []
  split
  · rfl
  · split
    · rfl
    · refine if_pos ?_
      rw [Bool.or_eq_true]
      left
      refine bne_iff_ne.mpr (Nat.ne_of_lt (fm_lt (x := Expr.Name x px) ?_ hm))
      exact if_neg (by simp [Env.kindOf, hx])
theorem g_nm (h : CfgOk g X) {x : Str} {i : Nat} {p : Pos} (z : tgk g.raw x = true) (w : ixOf g.N x = some i) : PG X (.Name x p) (tG X.K (.name i)) := by
  obtain ⟨a, b⟩ := h.tg _ z
  exact g_name (pg_name (by rw [h.N]; exact h.nd) (by rw [h.N]; exact ixOf_get w) a b)
theorem par0_2 (h : CfgOk g X) {x y : Str} {i j : Nat} {px py pt pt2 pos : Pos} {kt k2 : Nat} {a b : Expr} {ia : CA} (ei : ixOf g.N x = some i) (ej : ixOf g.N y = some j) (q : parNo g [x, y] = true) (ha : PA X [a, b] (tA X.K (wA ia))) :
    PS X (.Assign [.Tuple [.Name x px, .Name y py] kt pt] (.Tuple [a, b] k2 pt2) pos) (tS X.K (wS (.asgD [i, j] ia))) := by
  unfold parNo at q
  simp only [List.all_cons, List.all_nil, List.any_cons, List.any_nil, Bool.and_true, Bool.or_false, Bool.and_eq_true, Bool.or_eq_true, Bool.not_eq_true', beq_eq_false_iff_ne, ne_eq] at q
  obtain ⟨⟨tx, ty⟩, nl⟩ := q
  rw [← h.sc] at nl
  refine b_par0 (ts := .cons (.name i) (.cons (.name j) .nil)) ha (g_tup h.calm (gs_cons (g_nm h tx ei) (gs_cons (g_nm h ty ej) gs_nil rfl) rfl) rfl rfl) sw_tup (nl.elim (fun n => swp0 (px := px) (by simp) n) (fun n => swp0 (px := py) (by simp) n)) (by simp) fun c xs hl => ?_
  match xs, hl with
  | [u, v], _ => rfl
theorem par0_3 (h : CfgOk g X) {x y z : Str} {i j l : Nat} {px py pz pt pt2 pos : Pos} {kt k2 : Nat} {a b d : Expr} {ia : CA} (ei : ixOf g.N x = some i) (ej : ixOf g.N y = some j) (el : ixOf g.N z = some l) (q : parNo g [x, y, z] = true) (ha : PA X [a, b, d] (tA X.K (wA ia))) :
    PS X (.Assign [.Tuple [.Name x px, .Name y py, .Name z pz] kt pt] (.Tuple [a, b, d] k2 pt2) pos) (tS X.K (wS (.asgD [i, j, l] ia))) := by
  unfold parNo at q
  simp only [List.all_cons, List.all_nil, List.any_cons, List.any_nil, Bool.and_true, Bool.or_false, Bool.and_eq_true, Bool.or_eq_true, Bool.not_eq_true', beq_eq_false_iff_ne, ne_eq] at q
  obtain ⟨⟨tx, ty, tz⟩, nl⟩ := q
  rw [← h.sc] at nl
  refine b_par0 (ts := .cons (.name i) (.cons (.name j) (.cons (.name l) .nil))) ha (g_tup h.calm (gs_cons (g_nm h tx ei) (gs_cons (g_nm h ty ej) (gs_cons (g_nm h tz el) gs_nil rfl) rfl) rfl) rfl rfl) sw_tup (nl.elim (fun n => swp0 (px := px) (by simp) n) (fun n => n.elim (fun n => swp0 (px := py) (by simp) n) (fun n => swp0 (px := pz) (by simp) n))) (by simp) fun c xs hl => ?_
  match xs, hl with
  | [u, v, w], _ => rfl
theorem par_step (h : CfgOk g X) (es vs : List Expr) (kt k2 : Nat) (pt pt2 pos : Pos) : PS X (.Assign [.Tuple es kt pt] (.Tuple vs k2 pt2) pos) (tS X.K (wS (cPar (cE n g) g es vs))) := by
  have hN : X.N.Nodup := by rw [h.N]; exact h.nd
  unfold cPar
  split
  · rename_i x px y py a b
    split
    · rename_i i j ei ej
      split
      · rename_i q
        obtain ⟨q1, q2, q3⟩ := q
        obtain ⟨p1, p2, p3, p4, p5⟩ := par_of q3
        rw [← h.sc] at p1 p2
        have hx := p2 (x, px) (by simp)
        have hy := p2 (y, py) (by simp)
        exact b_par2 h.calm hN (by rw [h.N]; exact ixOf_get ei) (by rw [h.N]; exact ixOf_get ej) q2 hx.1 hy.1 (at_step (snd n) h _ _) (swp2 (bk_of p1) hx.1 hy.1 hy.2 q1 p3 p4 p5)
      · split
        · rename_i q
          exact par0_2 h ei ej q (at_step (snd n) h _ _)
        · exact b_never
    · exact b_never
  · rename_i x px y py z pz a b d
    split
    · rename_i i j l ei ej el
      split
      · rename_i q
        obtain ⟨⟨q1, q1b, q1c⟩, ⟨q2, q2b, q2c⟩, q3⟩ := q
        obtain ⟨p1, p2, p3, p4, p5⟩ := par_of q3
        rw [← h.sc] at p1 p2
        have hx := p2 (x, px) (by simp)
        have hy := p2 (y, py) (by simp)
        have hz := p2 (z, pz) (by simp)
        exact b_par3 h.calm hN (by rw [h.N]; exact ixOf_get ei) (by rw [h.N]; exact ixOf_get ej) (by rw [h.N]; exact ixOf_get el) q2 q2b q2c hx.1 hy.1 hz.1 (at_step (snd n) h _ _) (swp3 (bk_of p1) hx.1 hy.1 hz.1 hy.2 hz.2 q1 q1b q1c p3 p4 p5)
      · split
        · rename_i q
          exact par0_3 h ei ej el q (at_step (snd n) h _ _)
        · exact b_never
    · exact b_never
  · exact b_never
theorem asgT_step (h : CfgOk g X) (es : List Expr) (k : Nat) (q : Pos) (e : Expr) (p : Pos) (hne : ∀ vs k2 q2, e ≠ .Tuple vs k2 q2) : PS X (.Assign [.Tuple es k q] e p) (tS X.K (wS (cS (n + 1) g (.Assign [.Tuple es k q] e p)))) := by
  rw [show cS (n + 1) g (.Assign [.Tuple es k q] e p) = (if isTup e then .bad else (match cGs n g es with
      | some ts => .asgT (.tup ts) (cE n g e)
      | none => cStar g es (cE n g e))) from by cases e <;> first | rfl | exact absurd rfl (hne _ _ _)]
  split
  · exact b_never
  · rename_i z
    split
    · rename_i ts ets
      obtain ⟨a, b, c⟩ := (sndG n).Gs _ X _ ts h ets
      exact b_asgT ((snd n).E _ X _ h) (g_tup h.calm a b c) sw_tup (swp_tup (Bool.of_not_eq_true z))
    · unfold cStar
      split
      · rename_i x px y py p2
        split
        · rename_i i j ei ej
          split
          · rename_i q
            simp only [Bool.and_eq_true] at q
            obtain ⟨ax, bx⟩ := h.tg _ q.1.1
            obtain ⟨ay, b_y⟩ := h.tg _ q.1.2
            exact b_star (pg_star h.calm (by rw [h.N]; exact h.nd) (by rw [h.N]; exact ixOf_get ei) (by rw [h.N]; exact ixOf_get ej) ax ay bx b_y) ((snd n).E _ X _ h) sw_tup (swp_tup (Bool.of_not_eq_true z))
          · exact b_never
        · exact b_never
      · exact b_never
theorem st_step (ih : SndS n) (h : CfgOk g X) (s : Stmt) : PS X s (tS X.K (wS (cS (n + 1) g s))) := by
  cases s with
  | Return v p =>
    cases v with
    | none => unfold cS; exact b_retN
    | some e => unfold cS; exact b_ret ((snd n).E _ X _ h)
  | Assign ts e p =>
    cases ts with
    | nil => unfold cS; exact b_never
    | cons t r =>
      cases r with
      | cons _ _ => cases t <;> (unfold cS; exact b_never)
      | nil =>
        cases t with
        | Name x q => exact asg_step h x q e p
        | Tuple es k q =>
          cases e with
          | Tuple vs k2 q2 => unfold cS; exact par_step h es vs _ _ _ _ _
          | _ => exact asgT_step h es k q _ p (fun _ _ _ z => nomatch z)
        | Subscript o i q =>
          unfold cS
          split
          · exact b_never
          · rename_i z
            exact b_setIx ((snd n).E _ X _ h) ((snd n).E _ X _ h) ((snd n).E _ X _ h) (sub_asg o i q X.env (Bool.of_not_eq_true z)) sw_sub swp_sub
        | Attribute o f q =>
          unfold cS
          split
          · exact b_setFld (s_tw _ ((snd n).E _ X _ h)) ((snd n).E _ X _ h) (h.flds _ _ ‹_›) (sw_atr (o := o) (f := f) (q := q) (l := p.line) (env := X.env))
          · exact b_never
        | _ => unfold cS; exact b_never
  | AugAssign t op e p =>
    cases t with
    | Name x q =>
      unfold cS
      split
      · rename_i z
        obtain ⟨a, b⟩ := h.tg _ z
        split
        · exact b_aug (te := fun _ _ _ => True) (by rw [h.N]; exact h.nd) (by rw [h.N]; exact ixOf_get ‹_›) a b ((snd n).E _ X _ h)
        · exact b_never
      · exact b_never
    | Attribute o f q =>
      unfold cS
      split
      · exact b_augFld ((snd n).E _ X _ h) ((snd n).E _ X _ h) (h.flds _ _ ‹_›)
      · exact b_never
    | _ => unfold cS; exact b_never
  | Expr e p =>
    unfold cS
    split
    · rename_i z
      cases e <;> try (simp [isDoc] at z; done)
      rename_i c _ _
      cases c <;> try (simp [isDoc] at z; done)
      exact b_doc
    · split
      · exact b_never
      · exact b_expr ((snd n).E _ X _ h) (sw_no (Bool.of_not_eq_true ‹_›))
  | If t a b p => unfold cS; exact b_if ((snd n).T _ X _ h) (ih.Ss _ X _ h) (ih.Ss _ X _ h)
  | For tg it body els p =>
    cases els with
    | cons _ _ => unfold cS; exact b_never
    | nil =>
      unfold cS
      split
      · exact b_never
      · split
        · exact b_for h.hp h.calm ((snd n).I _ X _ _ h) ((sndG n).G _ X _ _ h ‹_›) (ih.Ss _ X _ h) (folded_of (Bool.of_not_eq_true ‹_›))
        · exact b_never
  | While t body els p =>
    cases els with
    | cons _ _ => unfold cS; exact b_never
    | nil => unfold cS; exact b_while h.hp ((snd n).T _ X _ h) (ih.Ss _ X _ h)
  | Break p => unfold cS; exact b_brk
  | Continue p => unfold cS; exact b_cont
  | Pass p => unfold cS; exact b_pass
  | _ => unfold cS; exact b_never
theorem ss_step (ih : SndS n) (h : CfgOk g X) (s : List Stmt) : PSs X s (tS X.K (wS (cSs (n + 1) g s))) := by
  cases s with
  | nil => unfold cSs; exact b_nil
  | cons a r =>
    cases r with
    | nil => unfold cSs; exact b_one (ih.S _ X _ h)
    | cons b r => unfold cSs; exact b_cons (ih.S _ X _ h) (ih.Ss _ X _ h)
end
theorem sndS : ∀ n, SndS n
  | 0 => ⟨fun g X s h => by unfold cS; exact b_never, fun g X s h => by
      cases s with
      | nil => unfold cSs; exact b_nil
      | cons a b => unfold cSs; exact bb_never⟩
  | n + 1 => ⟨fun g X s h => st_step (sndS n) h s, fun g X s h => ss_step (sndS n) h s⟩
end G

namespace G
open PySem PySem.Spec PyProof.Rows L2
/-! ### a def by its body -/
def st0 (N : Nat) (cs : List CV) : CSt := cs.map some ++ List.replicate (N - cs.length) none
theorem gv_map : ∀ (cs : List CV) (n i : Nat) (x : CV), gv (cs.map some ++ List.replicate n none) i = some x → cs[i]? = some x
  | [], 0, i, x, e => by cases e
  | [], n + 1, 0, x, e => by cases e
  | [], n + 1, i + 1, x, e => gv_map [] n i x e
  | y :: cs, n, 0, x, e => by simpa using (show some y = some x from e)
  | y :: cs, n, i + 1, x, e => by simpa using gv_map cs n i x e
theorem rs_start {K : PySem.W.Frag} {H : Hp} {μ : Mu} {cs : List CV} {vs : List V} {N : List Str} (r : RVs K H μ cs vs) : RS K H μ (st0 N.length cs) (L2.start N vs) := by
  have hl := r.length
  refine ⟨by unfold st0 L2.start; simp [hl], fun i x e => ?_⟩
  have hx := gv_map _ _ _ _ e
  obtain ⟨v, hv, rv⟩ := r.get hx
  refine ⟨v, ?_, rv⟩
  unfold L2.start
  have hi : i < vs.length := (List.getElem?_eq_some_iff.mp hv).1
  rw [List.getElem?_append_left (by simpa using hi), List.getElem?_map, hv]
  rfl
/-- the continuations of a body -/
def ret0 (h : CH) (k : WQ) (E : WX') : CEnds := ⟨fun _ h' => gcd h k (.v .non) h', gcd h k, fun _ _ => False, fun _ _ => False, E⟩
/-- a def's promise, whoever calls -/
structure SF (P : Program) (w : World) (K : PySem.W.Frag) (mg : Str → Option Value) (base : Heap) (k : Nat) (f : Addr) (sp : Spec) (n : Nat) (ds : List CV) : Prop where
  ex : ∃ (fd : FuncData) (j : Nat) (ps : List Str) (dvs : List V) (dus : List Value), FnOk P w K mg base CX0 j f fd ps (simSp K n sp) ∧ j ≤ k ∧ Binds K fd ps dus ∧ Vals dvs dus ∧ DV K ds dvs
/-- .. with keywords -/
structure SFK (P : Program) (w : World) (K : PySem.W.Frag) (mg : Str → Option Value) (base : Heap) (k : Nat) (f : Addr) (sp : Spec) (n np : Nat) (ks : List Str) (ar : List Src) : Prop where
  ex : ∃ (fd : FuncData) (j : Nat) (ps : List Str) (g : List Value → List Value → List Value) (gV : List V → List V → List V), FnOk P w K mg base CX0 j f fd ps (simSp K n sp) ∧ j ≤ k ∧ KBn K fd ps np ks g gV ∧ ArOk K np ks.length ar gV ∧ ar.length = n
/-- a class, by its __init__ -/
structure SN (P : Program) (w : World) (K : PySem.W.Frag) (mg : Str → Option Value) (base : Heap) (k : Nat) (C : Addr) (sp : Spec) (n : Nat) (ds : List CV) : Prop where
  ex : ∃ (f : Addr) (fd : FuncData) (j : Nat) (ps : List Str) (dvs : List V) (dus : List Value), Mk K C f ∧ FnOk P w K mg base CX0 j f fd ps (simSp K n sp) ∧ j + 1 ≤ k ∧ Binds K fd ps dus ∧ Vals dvs dus ∧ DV K ds dvs
structure SNK (P : Program) (w : World) (K : PySem.W.Frag) (mg : Str → Option Value) (base : Heap) (k : Nat) (C : Addr) (sp : Spec) (n np : Nat) (ks : List Str) (ar : List Src) : Prop where
  ex : ∃ (f : Addr) (fd : FuncData) (j : Nat) (ps : List Str) (g : List Value → List Value → List Value) (gV : List V → List V → List V), Mk K C f ∧ FnOk P w K mg base CX0 j f fd ps (simSp K n sp) ∧ j + 1 ≤ k ∧ KBn K fd ps (np + 1) ks g gV ∧ ArOk K (np + 1) ks.length ar gV ∧ ar.length = n
def SG (P : Program) (w : World) (K : PySem.W.Frag) (mg : Str → Option Value) (base : Heap) (k : Nat) (x : Str) : GE → Prop
  | .con v => ∃ u y, mg x = some u ∧ RelV y u ∧ ∀ H μ, RV K H μ v y
  | .fn f sp n pats th kp => mg x = some (.ref f) ∧ PySem.W.keepIn K (.ref f) = true ∧ (∀ j ds, lkP pats j = some ds → SF P w K mg base k f sp n ds) ∧ ∀ j ks ar, lkK kp j ks = some ar → SFK P w K mg base k f sp n j ks ar
  | .cls C sp n pats th kp => mg x = some (.ref C) ∧ (∀ j ds, lkP pats j = some ds → SN P w K mg base k C sp n ds) ∧ ∀ j ks ar, lkK kp j ks = some ar → SNK P w K mg base k C sp n j ks ar
structure SM (P : Program) (w : World) (K : PySem.W.Frag) (mg : Str → Option Value) (base : Heap) (k : Nat) (C : Addr) (m : Str) (sp : Spec) (n : Nat) (ds : List CV) : Prop where
  ex : ∃ f, Cls K C ∧ Meth K C m f ∧ SF P w K mg base k f sp n ds
/-- a class with an own __len__ -/
structure SL (P : Program) (w : World) (K : PySem.W.Frag) (mg : Str → Option Value) (base : Heap) (k : Nat) (C : Addr) (sp : Spec) (n : Nat) (ds : List CV) : Prop where
  ex : ∃ (f : Addr) (fd : FuncData) (j : Nat) (ps : List Str) (dvs : List V) (dus : List Value), Meth K C "__len__" f ∧ FnOk P w K mg base CX0 j f fd ps (simSp K n sp) ∧ j + 1 ≤ k ∧ Binds K fd ps dus ∧ Vals dvs dus ∧ DV K ds dvs
/-- a class with an own __eq__ -/
structure SE (P : Program) (w : World) (K : PySem.W.Frag) (mg : Str → Option Value) (base : Heap) (k : Nat) (C : Addr) (sp : Spec) (n : Nat) (ds : List CV) : Prop where
  ex : ∃ (f : Addr) (fd : FuncData) (j : Nat) (ps : List Str) (dvs : List V) (dus : List Value), OwnEq1 K C f ∧ FnOk P w K mg base CX0 j f fd ps (simSp K n sp) ∧ j + 1 ≤ k ∧ Binds K fd ps dus ∧ Vals dvs dus ∧ DV K ds dvs
/-- the tables hold -/
structure Tab (P : Program) (w : World) (K : PySem.W.Frag) (mg : Str → Option Value) (base : Heap) (k : Nat) (g : Cfg) : Prop where
  tab : ∀ x e, g.tab.lookup x = some e → SG P w K mg base k x e
  nog : ∀ x, x ∈ g.nog → mg x = none
  flds : ∀ f cs, g.flds.lookup f = some cs → ∀ C ∈ cs, Cls K C ∧ NoAttr K C f
  mths : ∀ m j tb, g.mths.lookup (m, j) = some tb → ∀ C sp n ds, look tb C = some (sp, n, ds) → SM P w K mg base k C m sp n ds
  isiC : ∀ t q, g.isiC.lookup t = some q → mg t = some (.ref q.1) ∧ IsOk K (.own q.1) q.2
  icl : ∀ t, (t = .int ∨ t = .bool ∨ t = .str ∨ t = .tuple ∨ t = .list) → IsOk K t g.icl
  lens : ∀ C sp n ds, look g.lens C = some (sp, n, ds) → SL P w K mg base k C sp n ds
  eqo : ∀ C, C ∈ g.eqo → ObjEq K C
  eqs : ∀ C sp n ds, look g.eqs C = some (sp, n, ds) → SE P w K mg base k C sp n ds
theorem tgk_loc {sc : Scope} {x : Str} (e : tgk sc x = true) : Loc sc x := by
  unfold tgk at e
  split at e
  · exact .inl ‹_›
  · exact .inr ‹_›
  · cases e
section
variable {P : Program} {w : World} {K : PySem.W.Frag} {mg : Str → Option Value} {base : Heap} {k : Nat} {g : Cfg}
theorem SF.at {X : Cx} {f : Addr} {sp : Spec} {n : Nat} {ds : List CV} (h : SF X.prog X.w X.K X.mg X.base k f sp n ds) (r : Room k X.A) : FOk X f sp n ds := by
  obtain ⟨fd, j, ps, dvs, dus, a, b, c, d, e⟩ := h.ex
  exact ⟨fd, j, ps, dvs, dus, a, r.mono b, c, d, e⟩
theorem SFK.at {X : Cx} {f : Addr} {sp : Spec} {n np : Nat} {ks : List Str} {ar : List Src} (h : SFK X.prog X.w X.K X.mg X.base k f sp n np ks ar) (r : Room k X.A) : FOkK X f sp n np ks ar := by
  obtain ⟨fd, j, ps, g, gV, a, b, c⟩ := h.ex
  exact ⟨fd, j, ps, g, gV, a, r.mono b, c⟩
theorem SN.at {X : Cx} {f : Addr} {sp : Spec} {n : Nat} {ds : List CV} (h : SN X.prog X.w X.K X.mg X.base k f sp n ds) (r : Room k X.A) : NOk X f sp n ds := by
  obtain ⟨f, fd, j, ps, dvs, dus, m, a, b, c⟩ := h.ex
  exact ⟨f, fd, j, ps, dvs, dus, m, a, r.mono b, c⟩
theorem SNK.at {X : Cx} {f : Addr} {sp : Spec} {n np : Nat} {ks : List Str} {ar : List Src} (h : SNK X.prog X.w X.K X.mg X.base k f sp n np ks ar) (r : Room k X.A) : NOkK X f sp n np ks ar := by
  obtain ⟨f, fd, j, ps, g, gV, m, a, b, c⟩ := h.ex
  exact ⟨f, fd, j, ps, g, gV, m, a, r.mono b, c⟩
theorem cfg_at {X : Cx} (T : Tab X.prog X.w X.K X.mg X.base k g) (r : Room k X.A) (hN : X.N = g.N) (nd : g.N.Nodup) (sc : X.env.scope = g.sc) (raw : g.raw = g.sc) (calm : X.calm = true) (fn : ∀ x, X.fn x = true) (hp : PassesOwn (model X.prog X.w) X.A X.env X.xe) : CfgOk g X where
  N := hN
  nd := nd
  sc := sc
  calm := calm
  hu := by have := r.un; omega
  hp := hp
  tg := fun x e => ⟨by rw [sc, ← raw]; exact tgk_loc e, .inl (fn x)⟩
  tab := fun x e he => by
    have z := T.tab x e he
    cases e with
    | con v => exact z
    | fn f sp n pats th kp => exact ⟨z.1, z.2.1, fun j ds hk => (z.2.2.1 j ds hk).at r, fun j ks ar hk => (z.2.2.2 j ks ar hk).at r⟩
    | cls C sp n pats th kp => exact ⟨z.1, fun j ds hk => (z.2.1 j ds hk).at r, fun j ks ar hk => (z.2.2 j ks ar hk).at r⟩
  nog := T.nog
  flds := T.flds
  mths := fun m j tb e C sp n ds hl => by
    obtain ⟨f, a, b, c⟩ := (T.mths m j tb e C sp n ds hl).ex
    exact ⟨f, a, b, c.at r⟩
  lens := fun C sp n ds hl => by
    obtain ⟨f, fd, j, ps, dvs, dus, m, a, b, c⟩ := (T.lens C sp n ds hl).ex
    exact ⟨f, fd, j, ps, dvs, dus, m, a, r.mono b, c⟩
  isiC := T.isiC
  icl := T.icl
  eqo := T.eqo
  eqs := fun C sp n ds hl => by
    obtain ⟨f, fd, j, ps, dvs, dus, m, a, b, c⟩ := (T.eqs C sp n ds hl).ex
    exact ⟨f, fd, j, ps, dvs, dus, m, a, r.mono b, c⟩
/-- THE RULE for a def -/
theorem fn_ok {x qual : Str} {st : Stmt} {f : Addr} {fd : FuncData} {ps : List Str} {n : Nat} {sp : Spec} {ir : CS} (fuel : Nat) (F : Fun K x qual st f fd) (S : FnScope g.N ps (defScope st)) (hn : ps.length = n) (hsc : g.sc = defScope st) (hraw : g.raw = g.sc) (T : Tab P w K mg base k g)
    (hir : cSs fuel g (defBody st) = ir) (hw : ∀ cs h q E, sp cs h q E → cs.length = n → clH h → clVs h.length cs → wS ir (ret0 h q E) (st0 g.N.length cs) h) : FnOk P w K mg base CX0 (k + 1) f fd ps (simSp K n sp) := by
  refine F.ok S (fun vs H Q E h => ?_) (fun cdv A outer s H vs Q E hr h => ?_)
  · obtain ⟨cs, h, μ, q, E', hl, rel, rv, _⟩ := h
    rw [← rv.length, hl, hn]
  · obtain ⟨cs, h, μ, q, E', hl, rel, rv, hs, nE, ps⟩ := h
    refine ⟨_, (sndS fuel).Ss g _ (defBody st) (cfg_at T hr rfl S.nd hsc.symm hraw rfl (fun _ => rfl) PassesOwn.never), ?_⟩
    rw [hir]
    have P0 := post_gc rel ps
    refine ⟨st0 g.N.length cs, h, μ, ret0 h q E', rs_start rv, rel, hw cs h q E' hs hl rel.cl (by rw [← rel.len]; exact rv.cl), ?_⟩
    exact ⟨fun c' h' z μ' H' σ' e rel' rs' => P0 _ _ z _ _ _ e rel' .non, P0, fun _ _ z => z.elim, fun _ _ z => z.elim, nE⟩
end
end G

namespace G
open PySem PySem.Spec PyProof.Rows L2
/-! ### what simp leaves alone: what comes later stands as an instance -/
class Hid (α : Type) where
  val : α
theorem hid_val {α : Type} (x : α) : (Hid.mk x).val = x := rfl
/-! ### at a def's end -/
theorem gc_same {h h1 : CH} {k : WQ} {r : CR} (q : k r h1) : gcd h k r h1 := ⟨r, h1, .all _ _, q⟩
/-! ### walks over mapped lists -/
section
variable {β : Type} {f : β → CV} {ns : List β} {Gd : CH → Prop} {h : CH} {σ : CSt}
theorem take_next {ns : List β} {i : Nat} {n : β} (e : ns[i]? = some n) : ns = ns.take i ++ n :: ns.drop (i + 1) := by
  have hi := (List.getElem?_eq_some_iff.mp e).1
  have hn := (List.getElem?_eq_some_iff.mp e).2
  conv => lhs; rw [← List.take_append_drop i ns]
  rw [List.drop_eq_getElem_cons hi, hn]
theorem take_succ' {ns : List β} {i : Nat} {n : β} (e : ns[i]? = some n) : ns.take (i + 1) = ns.take i ++ [n] := by
  have hi := (List.getElem?_eq_some_iff.mp e).1
  have hn := (List.getElem?_eq_some_iff.mp e).2
  rw [List.take_add_one, e]; rfl
theorem loop_map {step : CV → CSt → CH → (CSt → CH → Prop) → Prop} {fin : CSt → CH → Prop} (I : List β → CSt → CH → Prop) (h0 : I [] σ h) (hG : ∀ d r σ h, ns = d ++ r → I d σ h → Gd h)
    (hs : ∀ d n r σ h, ns = d ++ n :: r → I d σ h → step (f n) σ h (I (d ++ [n]))) (he : ∀ σ h, I ns σ h → fin σ h) : wLoop (ns.map f) Gd step fin σ h := by
  refine ⟨fun i => I (ns.take i), h0, fun i σ h _ q => hG _ (ns.drop i) _ _ (List.take_append_drop i ns).symm q, fun i x σ h e q => ?_, fun σ h q => he σ h (by rw [List.length_map, List.take_length] at q; exact q)⟩
  rw [List.getElem?_map] at e
  cases w : ns[i]? with
  | none => rw [w] at e; cases e
  | some n =>
    rw [w] at e; cases e
    show step (f n) σ h (I (ns.take (i + 1)))
    rw [take_succ' w]
    exact hs _ n _ _ _ (take_next w) q
theorem comp_map {step : CV → List CV → CH → (List CV → CH → Prop) → Prop} {fin : List CV → CH → Prop} {acc : List CV} (I : List β → List CV → CH → Prop) (h0 : I [] acc h) (hG : ∀ d r σ h, ns = d ++ r → I d σ h → Gd h)
    (hs : ∀ d n r σ h, ns = d ++ n :: r → I d σ h → step (f n) σ h (I (d ++ [n]))) (he : ∀ σ h, I ns σ h → fin σ h) : wComp (ns.map f) Gd step fin acc h := by
  refine ⟨fun i => I (ns.take i), h0, fun i σ h _ q => hG _ (ns.drop i) _ _ (List.take_append_drop i ns).symm q, fun i x σ h e q => ?_, fun σ h q => he σ h (by rw [List.length_map, List.take_length] at q; exact q)⟩
  rw [List.getElem?_map] at e
  cases w : ns[i]? with
  | none => rw [w] at e; cases e
  | some n =>
    rw [w] at e; cases e
    show step (f n) σ h (I (ns.take (i + 1)))
    rw [take_succ' w]
    exact hs _ n _ _ _ (take_next w) q
/-- a comprehension that changes nothing, each item by a plain function -/
theorem comp_pure {step : CV → List CV → CH → (List CV → CH → Prop) → Prop} {fin : List CV → CH → Prop} {acc : List CV} (g : β → CV) (hG : Gd h)
    (hs : ∀ d n r acc' N, ns = d ++ n :: r → acc' = acc ++ d.map g → N (acc' ++ [g n]) h → step (f n) acc' h N) (he : fin (acc ++ ns.map g) h) : wComp (ns.map f) Gd step fin acc h := by
  refine comp_map (fun d a h' => h' = h ∧ a = acc ++ d.map g) ⟨rfl, by simp⟩ (fun d r a h' _ q => by rw [q.1]; exact hG) ?_ ?_
  · rintro d n r a h' e ⟨rfl, rfl⟩
    exact hs d n r _ _ e rfl ⟨rfl, by simp⟩
  · rintro a h' ⟨rfl, rfl⟩; exact he
/-- .. the same with a test -/
theorem comp_filter {step : CV → List CV → CH → (List CV → CH → Prop) → Prop} {fin : List CV → CH → Prop} {acc : List CV} (g : β → Option CV) (hG : Gd h)
    (hs : ∀ d n r acc' N, ns = d ++ n :: r → acc' = acc ++ d.filterMap g → N (acc' ++ (g n).toList) h → step (f n) acc' h N) (he : fin (acc ++ ns.filterMap g) h) : wComp (ns.map f) Gd step fin acc h := by
  refine comp_map (fun d a h' => h' = h ∧ a = acc ++ d.filterMap g) ⟨rfl, by simp⟩ (fun d r a h' _ q => by rw [q.1]; exact hG) ?_ ?_
  · rintro d n r a h' e ⟨rfl, rfl⟩
    refine hs d n r _ _ e rfl ⟨rfl, ?_⟩
    rw [List.filterMap_append, List.append_assoc]
    congr 2
  · rintro a h' ⟨rfl, rfl⟩; exact he
/-- .. several items a turn -/
theorem comp_flat {step : CV → List CV → CH → (List CV → CH → Prop) → Prop} {fin : List CV → CH → Prop} {acc : List CV} (g : β → List CV) (hG : Gd h)
    (hs : ∀ d n r acc' N, ns = d ++ n :: r → acc' = acc ++ d.flatMap g → N (acc' ++ g n) h → step (f n) acc' h N) (he : fin (acc ++ ns.flatMap g) h) : wComp (ns.map f) Gd step fin acc h := by
  refine comp_map (fun d a h' => h' = h ∧ a = acc ++ d.flatMap g) ⟨rfl, by simp⟩ (fun d r a h' _ q => by rw [q.1]; exact hG) ?_ ?_
  · rintro d n r a h' e ⟨rfl, rfl⟩
    exact hs d n r _ _ e rfl ⟨rfl, by simp⟩
  · rintro a h' ⟨rfl, rfl⟩; exact he
theorem enum_map : ((ns.map f).zipIdx.map fun (x, k) => CV.tup [.int (k : Int), x]) = ns.zipIdx.map fun p => CV.tup [.int (p.2 : Int), f p.1] := by
  rw [List.zipIdx_map, List.map_map]; rfl
theorem zip_map {γ : Type} {g : γ → CV} {ms : List γ} : List.zipWith (fun x y => CV.tup [x, y]) (ns.map f) (ms.map g) = (ns.zip ms).map fun p => CV.tup [f p.1, g p.2] := by
  rw [List.zipWith_map, List.zip, List.map_zipWith]
theorem rev_map : (ns.map f).reverse = ns.reverse.map f := by rw [List.map_reverse]
end
theorem ints_map {ns : List Int} : intsOf (ns.map .int) = some ns := by
  induction ns with
  | nil => rfl
  | cons a b ih => show (intsOf (b.map .int)).map (a :: ·) = _; rw [ih]; rfl
theorem bls_map {β : Type} {ns : List β} {g : β → Bool} : blsOf (ns.map fun x => .bl (g x)) = some (ns.map g) := by
  induction ns with
  | nil => rfl
  | cons a b ih => show (blsOf (b.map fun x => .bl (g x))).map (g a :: ·) = _; rw [ih]; rfl
theorem ints_map' {β : Type} {ns : List β} {g : β → Int} : intsOf (ns.map fun x => .int (g x)) = some (ns.map g) := by
  induction ns with
  | nil => rfl
  | cons a b ih => show (intsOf (b.map fun x => .int (g x))).map (g a :: ·) = _; rw [ih]; rfl
/-! ### closed values -/
theorem cl_ints {n : Nat} : ∀ {ns : List Int}, clVs n (ns.map .int)
  | [] => trivial
  | _ :: _ => ⟨trivial, cl_ints⟩
theorem clV_mono {m n : Nat} (l : m ≤ n) : ∀ x, clV m x → clV n x := by
  suffices h : (∀ x, clV m x → clV n x) from h
  exact fun x => CV.rec (motive_1 := fun x => clV m x → clV n x) (motive_2 := fun xs => clVs m xs → clVs n xs) (fun h => h) (fun _ h => h) (fun _ h => h) (fun _ h => h) (fun _ ih h => ih h) (fun _ ih h => ih h) (fun _ _ _ ih h => ih h) (fun a h => Nat.lt_of_lt_of_le h l) (fun h => h) (fun _ _ a b h => ⟨a h.1, b h.2⟩) x
theorem clH_set {h : CH} {a : Nat} {o : CO} (c : clH h) (co : clO h.length o) : clH (h.set a o) := fun b u e => by
  rw [List.length_set]
  by_cases q : a = b
  · subst q
    have hl : a < h.length := by
      have := (List.getElem?_eq_some_iff.mp e).1
      rwa [List.length_set] at this
    rw [List.getElem?_set_self hl] at e
    cases e; exact co
  · rw [List.getElem?_set_ne q] at e
    exact c b u e
/-! ### the glue of a law -/
section
variable {P : Program} {w : World} {K : PySem.W.Frag} {mg : Str → Option Value} {base : Heap} {k : Nat}
theorem tab_nil : ∀ x e, List.lookup x ([] : List (Str × GE)) = some e → SG P w K mg base k x e := fun x e h => by cases h
theorem tab_cons {y : Str} {d : GE} {r : List (Str × GE)} (a : SG P w K mg base k y d) (b : ∀ x e, r.lookup x = some e → SG P w K mg base k x e) : ∀ x e, List.lookup x ((y, d) :: r) = some e → SG P w K mg base k x e := fun x e h => by
  rw [List.lookup_cons] at h
  cases q : x == y with
  | true => rw [q] at h; cases h; rw [eq_of_beq q]; exact a
  | false => rw [q] at h; exact b x e h
theorem nog_nil : ∀ x, x ∈ ([] : List Str) → mg x = none := fun x h => by cases h
theorem nog_cons {y : Str} {r : List Str} (a : mg y = none) (b : ∀ x, x ∈ r → mg x = none) : ∀ x, x ∈ y :: r → mg x = none := fun x h => by
  rcases List.mem_cons.mp h with rfl | h
  · exact a
  · exact b x h
theorem fld_nil : ∀ f cs, List.lookup f ([] : List (Str × List Addr)) = some cs → ∀ C ∈ cs, Cls K C ∧ NoAttr K C f := fun f cs h => by cases h
theorem mth_nil : ∀ m j tb, List.lookup (m, j) ([] : List ((Str × Nat) × List (Addr × Spec × Nat × List CV))) = some tb → ∀ C sp n ds, look tb C = some (sp, n, ds) → SM P w K mg base k C m sp n ds := fun m j tb h => by cases h
theorem isOk0 : ∀ t, (t = .int ∨ t = .bool ∨ t = .str ∨ t = .tuple ∨ t = .list) → IsOk K t [] := by
  rintro t (rfl | rfl | rfl | rfl | rfl) <;>
    exact ⟨kit_ty (by decide +kernel), kit_ty (by decide +kernel), kit_ty (by decide +kernel), kit_ty (by decide +kernel), kit_ty (by decide +kernel), kit_ty (by decide +kernel), fun C h => by cases h⟩
theorem ic_nil : ∀ t q, List.lookup t ([] : List (Str × Addr × List Addr)) = some q → mg t = some (.ref q.1) ∧ IsOk K (.own q.1) q.2 := fun t q h => by cases h
theorem SF.mono {f : Addr} {sp : Spec} {n : Nat} {ds : List CV} {j : Nat} (h : SF P w K mg base j f sp n ds) (l : j ≤ k) : SF P w K mg base k f sp n ds := by
  obtain ⟨fd, i, ps, dvs, dus, a, b, c⟩ := h.ex
  exact ⟨fd, i, ps, dvs, dus, a, Nat.le_trans b l, c⟩
theorem sf_mk {f : Addr} {fd : FuncData} {ps : List Str} {sp : Spec} {n : Nat} {j : Nat} (h : FnOk P w K mg base CX0 j f fd ps (simSp K n sp)) (l : j ≤ k) (b : Binds K fd ps []) : SF P w K mg base k f sp n [] :=
  ⟨fd, j, ps, [], [], h, l, b, .nil, fun _ _ => .nil⟩
/-- the patterns of a call, one by one -/
theorem lp_nil {p : List CV → Prop} : ∀ j ds, lkP [] j = some ds → p ds := fun j ds e => by cases e
theorem lp_cons {p : List CV → Prop} {j0 : Nat} {d0 : List CV} {r : List (Nat × List CV)} (a : p d0) (b : ∀ j ds, lkP r j = some ds → p ds) : ∀ j ds, lkP ((j0, d0) :: r) j = some ds → p ds := fun j ds e => by
  unfold lkP at e
  split at e
  · cases e; exact a
  · exact b j ds e
theorem lk_nil {p : Nat → List Str → List Src → Prop} : ∀ j ks ar, lkK [] j ks = some ar → p j ks ar := fun j ks ar e => by cases e
theorem lk_cons {p : Nat → List Str → List Src → Prop} {j0 : Nat} {k0 : List Str} {a0 : List Src} {r : List ((Nat × List Str) × List Src)} (a : p j0 k0 a0) (b : ∀ j ks ar, lkK r j ks = some ar → p j ks ar) : ∀ j ks ar, lkK (((j0, k0), a0) :: r) j ks = some ar → p j ks ar := fun j ks ar e => by
  unfold lkK at e
  split at e
  · rename_i q; obtain ⟨rfl, rfl⟩ := q; cases e; exact a
  · exact b j ks ar e
theorem sg_fn {x : Str} {f : Addr} {sp : Spec} {n : Nat} {pats : List (Nat × List CV)} {th : List Bool} {kp : List ((Nat × List Str) × List Src)} (m : mg x = some (.ref f)) (kk : PySem.W.keepIn K (.ref f) = true) (h : ∀ j ds, lkP pats j = some ds → SF P w K mg base k f sp n ds) (h2 : ∀ j ks ar, lkK kp j ks = some ar → SFK P w K mg base k f sp n j ks ar) : SG P w K mg base k x (.fn f sp n pats th kp) := ⟨m, kk, h, h2⟩
theorem sg_cls {x : Str} {C : Addr} {sp : Spec} {n : Nat} {pats : List (Nat × List CV)} {th : List Bool} {kp : List ((Nat × List Str) × List Src)} (m : mg x = some (.ref C)) (h : ∀ j ds, lkP pats j = some ds → SN P w K mg base k C sp n ds) (h2 : ∀ j ks ar, lkK kp j ks = some ar → SNK P w K mg base k C sp n j ks ar) : SG P w K mg base k x (.cls C sp n pats th kp) := ⟨m, h, h2⟩
end
/-! ### the law's own call -/
/-- no list stands among what the top wrote -/
def NoList (K : PySem.W.Frag) : Prop := ∀ a o, K.lookup a = some o → o.cls ≠ .type "list"
theorem walkG {l : PySem.W.OpenLaw} {k : Nat} {q : Program} {loose : List Str} {XP : (Str → Option Value) → Heap → Prop} {YP : World → Heap → Prop} {d : DefRec} {K : Params → PySem.W.Frag} {x : Str} {sp : Spec}
    (hn : l.most = some 63) (hdf : d.params.defaults = []) (hr : k ≤ 100)
    (hY : ∀ (w : World) (h : Heap), YP w h → (K w.params).In h) (hL : ∀ w : World, NoList (K w.params))
    (F : ∀ (w : World) (mg : Str → Option Value) (fa : Addr) (h : Heap), (K w.params).In h → h.Ns mainGlobals mg → mg d.name = some (.ref fa) →
      ∃ fd : FuncData, (∀ (s : Shared) (u : Value), BindsTo s fd ⟨[u], []⟩ [(x, u)]) ∧ ∀ base : Heap, (K w.params).In base → base.Ns mainGlobals mg → FnOk l.prog w (K w.params) mg base CX0 k fa fd [x] (simSp (K w.params) 1 sp))
    (S : ∀ ns : List Int, ns.length ≤ 63 → sp [.ref 0] [.fro (ns.map .int)] (fun r _ => r = .v (.bl true)) (fun _ _ => False)) :
    PySem.W.WalkO q loose XP YP l.row.toRowW d [] (fun f vs => PySem.call f vs) := by
  refine L2.walk_of (n := 63) (k := k) (x := x) (CX := fun _ => CX0) (sp := fun w => simSp (K w.params) 1 sp) hn (by decide) hdf ⟨rfl, ?_, ?_⟩ hY F (fun w H a ns hl hO hS => ?_) fun _ _ _ _ _ z => z
  · have a : callerA.depth + 3 * 100 + 5 < recursionLimit := by decide
    omega
  · have a : callerA.units + 16 * 100 + 200 < cLine := by decide
    omega
  · have hz : ∃ o, H a = some (.frz o (.lst (ns.map V.int))) := by
      rcases hS with (h | ⟨o, h⟩) | ⟨o, its, n, hk, hc, _⟩
      · rcases hO a with z | ⟨o, xs, z⟩
        · rw [h] at z; cases z
        · rw [h] at z; cases z
      · exact ⟨o, h⟩
      · exact absurd hc (hL w a o hk)
    obtain ⟨o, hz⟩ := hz
    refine ⟨[.ref 0], [.fro (ns.map .int)], ⟨[a], fun _ => False⟩, _, _, rfl, ⟨rfl, by simp, fun _ z => z.elim, fun _ z => z.elim, fun b u p hb hp => ?_⟩, .cons (.ref rfl) .nil, S ns hl, fun _ _ z => z, ?_⟩
    · cases b with
      | succ b => simp at hb
      | zero =>
        simp at hb hp
        subst hb hp
        refine ⟨o, _, hz, ?_⟩
        clear hS hz hl
        induction ns with
        | nil => exact .nil
        | cons z zs ih => exact .cons (.int z) ih
    · intro r h' e μ' H' x' _ _ rr
      subst e
      cases (show RV _ _ _ (.bl true) _ from rr)
      rfl
end G

namespace G
open PySem PySem.Spec PyProof.Rows L2
/-! ### equality of plain data -/
/-- data of one kind: g as values, e as data, apart and not deep -/
structure Kind {β : Type} [DecidableEq β] (h : CH) (n d : Nat) (g : β → CV) (e : β → PyData) : Prop where
  dat : ∀ x, datV h n (g x) = some (e x)
  lay : ∀ x, PyData.canLay0 (e x) = true
  dep : ∀ x, PyData.depth (e x) ≤ d
  eqv : ∀ x y, PyData.eqv (e x) (e y) = decide (x = y)
section
variable {β : Type} [DecidableEq β] {h : CH} {n d : Nat} {g : β → CV} {e : β → PyData}
theorem Kind.up {m : Nat} (k : Kind h n d g e) (l : d ≤ m) : Kind h n m g e := ⟨k.dat, k.lay, fun x => Nat.le_trans (k.dep x) l, k.eqv⟩
theorem Kind.dats (k : Kind h n d g e) : ∀ xs : List β, datVs h n (xs.map g) = some (xs.map e)
  | [] => by simp [datVs]
  | x :: xs => by
    show datVs h n (g x :: xs.map g) = _
    rw [datVs, k.dat x, Kind.dats k xs]; rfl
theorem Kind.lays (k : Kind h n d g e) : ∀ xs : List β, PyData.canLayAll0 (xs.map e) = true
  | [] => rfl
  | x :: xs => by
    show (PyData.canLay0 (e x) && PyData.canLayAll0 (xs.map e)) = true
    rw [k.lay x, Kind.lays k xs]; rfl
theorem Kind.deps (k : Kind h n d g e) : ∀ xs : List β, PyData.depthAll (xs.map e) ≤ d
  | [] => Nat.zero_le _
  | x :: xs => by
    show max (PyData.depth (e x)) (PyData.depthAll (xs.map e)) ≤ d
    exact Nat.max_le.mpr ⟨k.dep x, Kind.deps k xs⟩
theorem Kind.eqvs (k : Kind h n d g e) : ∀ xs ys : List β, PyData.eqvAll (xs.map e) (ys.map e) = decide (xs = ys)
  | [], [] => by simp [PyData.eqvAll]
  | [], _ :: _ => by simp [PyData.eqvAll]
  | _ :: _, [] => by simp [PyData.eqvAll]
  | x :: xs, y :: ys => by
    show PyData.eqvAll (e x :: xs.map e) (e y :: ys.map e) = _
    rw [PyData.eqvAll, k.eqv, Kind.eqvs k xs ys]
    by_cases a : x = y <;> by_cases b : xs = ys <;> simp [a, b]
theorem k_int : Kind h n 0 CV.int PyData.int := ⟨fun x => by simp [datV], fun _ => rfl, fun _ => Nat.le_refl _, fun x y => by
  show (x == y) = decide (x = y)
  by_cases q : x = y <;> simp [q]⟩
theorem Kind.tup (k : Kind h n d g e) : Kind h (n + 1) (d + 1) (fun xs : List β => CV.tup (xs.map g)) (fun xs => PyData.tuple (xs.map e)) :=
  ⟨fun xs => by show datV h (n + 1) (.tup (xs.map g)) = _; rw [datV, k.dats]; rfl, fun xs => by rw [PyData.canLay0]; exact k.lays xs, fun xs => by rw [PyData.depth]; exact Nat.succ_le_succ (k.deps xs), fun xs ys => by
    rw [PyData.eqv]; exact k.eqvs xs ys⟩
/-- a list's data -/
theorem Kind.al (k : Kind h 8 d g e) (xs : List β) : datR h (.al (xs.map g)) = some (.list (xs.map e)) := by
  show (datVs h 8 (xs.map g)).map PyData.list = _; rw [k.dats]; rfl
theorem Kind.rf (k : Kind h 7 d g e) {xs : List β} {a : Nat} (ha : h[a]? = some (.lst (xs.map g))) : datR h (.v (.ref a)) = some (.list (xs.map e)) := by
  show datV h 8 (.ref a) = _
  rw [datV, ha]
  show (datVs h 7 (xs.map g)).map PyData.list = _; rw [k.dats]; rfl
/-- a kept list's data -/
theorem Kind.lst (k : Kind h n d g e) : Kind h (n + 1) (d + 1) (fun xs : List β => CV.lst (xs.map g)) (fun xs => PyData.list (xs.map e)) :=
  ⟨fun xs => by show datV h (n + 1) (.lst (xs.map g)) = _; rw [datV, k.dats]; rfl, fun xs => by rw [PyData.canLay0]; exact k.lays xs, fun xs => by rw [PyData.depth]; exact Nat.succ_le_succ (k.deps xs), fun xs ys => by
    rw [PyData.eqv]; exact k.eqvs xs ys⟩
theorem Kind.v (k : Kind h 8 d g e) (x : β) : datR h (.v (g x)) = some (e x) := k.dat x
theorem Kind.shL (k : Kind h n d g e) (l : d < 64) (xs : List β) : SeqAt.shaped (.list (xs.map e)) = true := by
  unfold SeqAt.shaped
  rw [PyData.canLay0, k.lays, PyData.depth]
  have := k.deps xs
  simp; omega
theorem Kind.sh (k : Kind h n d g e) (l : d ≤ 64) (x : β) : SeqAt.shaped (e x) = true := by
  unfold SeqAt.shaped
  rw [k.lay]
  have := k.dep x
  simp; omega
theorem Kind.eqL (k : Kind h n d g e) (xs ys : List β) : PyData.eqv (.list (xs.map e)) (.list (ys.map e)) = decide (xs = ys) := by rw [PyData.eqv]; exact k.eqvs xs ys
theorem eqR_mk {x y : CR} {d e : PyData} {b : Bool} {k : Bool → Prop} (hx : datR h x = some d) (hy : datR h y = some e) (sx : SeqAt.shaped d = true) (sy : SeqAt.shaped e = true) (hb : PyData.eqv d e = b) (hk : k b) : eqR x y h k := by
  unfold eqR
  rw [hx, hy]
  exact ⟨⟨sx, sy⟩, by rw [hb]; exact hk⟩
end
/-- lists of tuples of ints -/
theorem eqL_gen {β : Type} [DecidableEq β] {g : β → CV} {e : β → PyData} {d : Nat} {h : CH} {x y : CR} {a b : List β} {k : Bool → Prop} (K8 : Kind h 8 d g e) (K7 : Kind h 7 d g e) (hd : d < 64)
    (hx : lsOf x h = some (a.map g)) (hy : lsOf y h = some (b.map g)) (hk : k (decide (a = b))) : eqR x y h k := by
  have key : ∀ {z : CR} {c : List β}, lsOf z h = some (c.map g) → datR h z = some (.list (c.map e)) := fun {z c} hz => by
    cases z with
    | al xs => cases hz; exact K8.al c
    | v v =>
      cases v <;> try (cases hz; done)
      · cases hz
        show datV h 8 (.lst _) = _
        rw [datV, K7.dats]; rfl
      rename_i p
      have hz' : (match h[p]? with
        | some (.lst xs) => some xs
        | some (.fro xs) => some xs
        | _ => none) = some (c.map g) := hz
      show datV h 8 (.ref p) = _
      rw [datV]
      cases q : h[p]? with
      | none => rw [q] at hz'; cases hz'
      | some o =>
        rw [q] at hz'
        cases o with
        | lst xs => cases hz'; show (datVs h 7 (c.map g)).map PyData.list = _; rw [K7.dats]; rfl
        | fro xs => cases hz'; show (datVs h 7 (c.map g)).map PyData.list = _; rw [K7.dats]; rfl
        | ins C fs => cases hz'
  exact eqR_mk (key hx) (key hy) (K8.shL hd a) (K8.shL hd b) (K8.eqL a b) hk
theorem eqL_int {h : CH} {x y : CR} {a b : List Int} {k : Bool → Prop} (hx : lsOf x h = some (a.map .int)) (hy : lsOf y h = some (b.map .int)) (hk : k (decide (a = b))) : eqR x y h k :=
  eqL_gen k_int k_int (by decide) hx hy hk
end G

namespace G
open PySem PySem.Spec PyProof.Rows L2
/-! ### the core language by small rules; what comes later is left alone -/
def lsC : Option CO → Option (List CV)
  | some (.lst xs) => some xs
  | some (.fro xs) => some xs
  | _ => none
def trC : Option CO → Option Bool
  | some (.lst xs) => some (!xs.isEmpty)
  | some (.fro xs) => some (!xs.isEmpty)
  | _ => none
def itC (t : Ty) (cs : List Addr) : Option CO → Option Bool
  | some (.lst _) => some (decide (t = .list))
  | some (.fro _) => some (decide (t = .list))
  | some (.ins C _) => if C ∈ cs then some (decide (t = .own C)) else none
  | none => none
def fldC (o : Option CO) (f : Str) (cs : List Addr) (h : CH) (Q : WQ) : Prop := match o with
  | some (.ins C fs) => C ∈ cs ∧ oP (fs.lookup f) fun v => Q (.v v) h
  | _ => False
def stC (o : Option CO) (a : Nat) (k : Int) (x : CV) (h : CH) (N : CH → Prop) : Prop := match o with
  | some (.lst xs) => ixN' xs k fun j => N (h.set a (.lst (xs.set j x)))
  | _ => False
def stFC (o : Option CO) (a : Nat) (f : Str) (cs : List Addr) (x : CV) (h : CH) (N : CH → Prop) : Prop := match o with
  | some (.ins C fs) => (C ∈ cs ∧ fs.length < 1000) ∧ N (h.set a (.ins C (putC f x fs)))
  | _ => False
def agC (o : Option CO) (a : Nat) (f : Str) (cs : List Addr) (k : Nat → Addr → List (Str × CV) → Int → Prop) : Prop := match o with
  | some (.ins C fs) => C ∈ cs ∧ fs.length < 1000 ∧ vI (fs.lookup f) fun x => k a C fs x
  | _ => False
def mtC (o : Option CO) (a : Nat) (tb : List (Addr × Spec × Nat × List CV)) (m : Str) (k : CV → Spec → Nat → List CV → Prop) : Prop := match o with
  | some (.ins C fs) => oP (look tb C) fun t => fs.lookup m = none ∧ k (.ref a) t.1 t.2.1 t.2.2
  | _ => False
def apC (o : Option CO) (a : Nat) (x : CV) (h : CH) (Q : WQ) : Prop := match o with
  | some (.lst xs) => xs.length < sizeLine ∧ Q (.v .non) (h.set a (.lst (xs ++ [x])))
  | _ => False
def exC (o : Option CO) (a : Nat) (y : CV) (h : CH) (Q : WQ) : Prop := match o with
  | some (.lst xs) => oP (lsM (.v y) h) fun ys => xs.length + ys.length ≤ sizeLine ∧ Q (.v .non) (h.set a (.lst (xs ++ ys)))
  | _ => False
def bmC (o : Option CO) (m : Bm) (a : Nat) (rs : List CV) (h : CH) (Q : WQ) : Prop := match o with
  | some (.lst xs) => oP (bmF m xs rs) fun q => Q (.v q.1) (h.set a (.lst q.2))
  | _ => False
def lmC : Option CO → Option (List CV)
  | some (.lst xs) => some xs
  | _ => none
theorem exC_iff {h : CH} {Q : WQ} {a : Nat} {y : CV} : bmR .extend (.v (.ref a)) [y] h Q ↔ exC (h[a]?) a y h Q := by
  simp only [bmR, bmM, exC]
  generalize h[a]? = o
  cases o with
  | none => exact Iff.rfl
  | some o => cases o <;> exact Iff.rfl
theorem binL_iff {h : CH} {Q : WQ} {x y : CR} : binL .Add x y h Q ↔ oP (lsM x h) fun a => oP (lsM y h) fun b => a.length + b.length ≤ sizeLine ∧ Q (.al (a ++ b)) h := by
  unfold binL
  cases lsM x h with
  | none => cases lsM y h <;> exact Iff.rfl
  | some a => cases lsM y h with
    | none => exact Iff.rfl
    | some b => exact ⟨fun w => w.2, fun w => ⟨rfl, w⟩⟩
def lenC (o : Option CO) (tb : List (Addr × Spec × Nat × List CV)) (a : Nat) (h : CH) (Q : WQ) (E : WX') : Prop := match o with
  | some (.ins C _) => oP (look tb C) fun t => (CV.ref a :: t.2.2).length = t.2.1 ∧ ap t.1 (.ref a :: t.2.2) h (fun r h1 => inI r fun i => (0 ≤ i ∧ i < 2 ^ 63) ∧ Q (.v (.int i)) h1) E
  | some (.lst xs) => Q (.v (.int xs.length)) h
  | some (.fro xs) => Q (.v (.int xs.length)) h
  | none => False
theorem lenC_iff {tb : List (Addr × Spec × Nat × List CV)} {h : CH} {Q : WQ} {E : WX'} {a : Nat} : lenR tb (.v (.ref a)) h Q E ↔ lenC (h[a]?) tb a h Q E := by
  have e : bltR .len [.v (.ref a)] h Q ↔ oP (match h[a]? with | some (.lst xs) => some xs | some (.fro xs) => some xs | _ => none) fun xs => Q (.v (.int xs.length)) h := Iff.rfl
  simp only [lenR, lenC, e]
  generalize h[a]? = o
  cases o with
  | none => exact Iff.rfl
  | some o => cases o <;> exact Iff.rfl
theorem bmC_iff {m : Bm} {h : CH} {Q : WQ} {a : Nat} {rs : List CV} (hm : m = .remove ∨ m = .pop ∨ m = .insert ∨ m = .reverse ∨ m = .clear) : bmR m (.v (.ref a)) rs h Q ↔ bmC (h[a]?) m a rs h Q := by
  rcases hm with rfl | rfl | rfl | rfl | rfl <;>
  · simp only [bmR, bmM, bmC]
    generalize h[a]? = o
    cases o with
    | none => exact Iff.rfl
    | some o => cases o <;> exact Iff.rfl
theorem apC_iff {h : CH} {Q : WQ} {a : Nat} {x : CV} : bmR .append (.v (.ref a)) [x] h Q ↔ apC (h[a]?) a x h Q := by
  simp only [bmR, bmM, apC]
  generalize h[a]? = o
  cases o with
  | none => exact Iff.rfl
  | some o => cases o <;> exact Iff.rfl
def oPH {α : Type} (o : Option α) [k : Hid (α → Prop)] : Prop := oP o k.val
theorem h_oP {α : Type} (o : Option α) {k : α → Prop} : oP o k ↔ @oPH α o ⟨k⟩ := ⟨fun w => w, fun w => w⟩
def vrH (o : Option CV) (h : CH) [Q : Hid (WQ)] : Prop := vr o h Q.val
theorem h_vr (o : Option CV) (h : CH) {Q : WQ} : vr o h Q ↔ @vrH o h ⟨Q⟩ := ⟨fun w => w, fun w => w⟩
def vIH (o : Option CV) [k : Hid (Int → Prop)] : Prop := vI o k.val
theorem h_vI (o : Option CV) {k : Int → Prop} : vI o k ↔ @vIH o ⟨k⟩ := ⟨fun w => w, fun w => w⟩
def cndH (b : Bool) [A : Hid (Prop)] [B : Hid (Prop)] : Prop := cnd b A.val B.val
theorem h_cnd (b : Bool) {A : Prop} {B : Prop} : cnd b A B ↔ @cndH b ⟨A⟩ ⟨B⟩ := ⟨fun w => w, fun w => w⟩
def eqRH (x y : CR) (h : CH) [k : Hid (Bool → Prop)] : Prop := eqR x y h k.val
theorem h_eqR (x y : CR) (h : CH) {k : Bool → Prop} : eqR x y h k ↔ @eqRH x y h ⟨k⟩ := ⟨fun w => w, fun w => w⟩
def inRH (x y : CR) (h : CH) [k : Hid (Bool → Prop)] : Prop := inR x y h k.val
theorem h_inR (x y : CR) (h : CH) {k : Bool → Prop} : inR x y h k ↔ @inRH x y h ⟨k⟩ := ⟨fun w => w, fun w => w⟩
def apH (sp : Spec) (xs : List CV) (h : CH) [Q : Hid (WQ)] [E : Hid (WX')] : Prop := ap sp xs h Q.val E.val
theorem h_ap (sp : Spec) (xs : List CV) (h : CH) {Q : WQ} {E : WX'} : ap sp xs h Q E ↔ @apH sp xs h ⟨Q⟩ ⟨E⟩ := ⟨fun w => w, fun w => w⟩
def wLoopH (xs : List CV) (σ : CSt) (h : CH) [G : Hid (CH → Prop)] [st : Hid (CV → CSt → CH → (CSt → CH → Prop) → Prop)] [fin : Hid (CSt → CH → Prop)] : Prop := wLoop xs G.val st.val fin.val σ h
theorem h_wLoop (xs : List CV) (σ : CSt) (h : CH) {G : CH → Prop} {st : CV → CSt → CH → (CSt → CH → Prop) → Prop} {fin : CSt → CH → Prop} : wLoop xs G st fin σ h ↔ @wLoopH xs σ h ⟨G⟩ ⟨st⟩ ⟨fin⟩ := ⟨fun w => w, fun w => w⟩
def wCompH (xs : List CV) (a : List CV) (h : CH) [G : Hid (CH → Prop)] [st : Hid (CV → List CV → CH → (List CV → CH → Prop) → Prop)] [fin : Hid (List CV → CH → Prop)] : Prop := wComp xs G.val st.val fin.val a h
theorem h_wComp (xs : List CV) (a : List CV) (h : CH) {G : CH → Prop} {st : CV → List CV → CH → (List CV → CH → Prop) → Prop} {fin : List CV → CH → Prop} : wComp xs G st fin a h ↔ @wCompH xs a h ⟨G⟩ ⟨st⟩ ⟨fin⟩ := ⟨fun w => w, fun w => w⟩
def gcdH (h0 : CH) (r : CR) (h : CH) [k : Hid (WQ)] : Prop := gcd h0 k.val r h
theorem h_gcd (h0 : CH) (r : CR) (h : CH) {k : WQ} : gcd h0 k r h ↔ @gcdH h0 r h ⟨k⟩ := ⟨fun w => w, fun w => w⟩
def fldCH (o : Option CO) (f : Str) (cs : List Addr) (h : CH) [Q : Hid (WQ)] : Prop := fldC o f cs h Q.val
theorem h_fldC (o : Option CO) (f : Str) (cs : List Addr) (h : CH) {Q : WQ} : fldC o f cs h Q ↔ @fldCH o f cs h ⟨Q⟩ := ⟨fun w => w, fun w => w⟩
def stCH (o : Option CO) (a : Nat) (i : Int) (x : CV) (h : CH) [N : Hid (CH → Prop)] : Prop := stC o a i x h N.val
theorem h_stC (o : Option CO) (a : Nat) (i : Int) (x : CV) (h : CH) {N : CH → Prop} : stC o a i x h N ↔ @stCH o a i x h ⟨N⟩ := ⟨fun w => w, fun w => w⟩
def stFCH (o : Option CO) (a : Nat) (f : Str) (cs : List Addr) (x : CV) (h : CH) [N : Hid (CH → Prop)] : Prop := stFC o a f cs x h N.val
theorem h_stFC (o : Option CO) (a : Nat) (f : Str) (cs : List Addr) (x : CV) (h : CH) {N : CH → Prop} : stFC o a f cs x h N ↔ @stFCH o a f cs x h ⟨N⟩ := ⟨fun w => w, fun w => w⟩
def agCH (o : Option CO) (a : Nat) (f : Str) (cs : List Addr) [k : Hid (Nat → Addr → List (Str × CV) → Int → Prop)] : Prop := agC o a f cs k.val
theorem h_agC (o : Option CO) (a : Nat) (f : Str) (cs : List Addr) {k : Nat → Addr → List (Str × CV) → Int → Prop} : agC o a f cs k ↔ @agCH o a f cs ⟨k⟩ := ⟨fun w => w, fun w => w⟩
def mtCH (o : Option CO) (a : Nat) (tb : List (Addr × Spec × Nat × List CV)) (m : Str) [k : Hid (CV → Spec → Nat → List CV → Prop)] : Prop := mtC o a tb m k.val
theorem h_mtC (o : Option CO) (a : Nat) (tb : List (Addr × Spec × Nat × List CV)) (m : Str) {k : CV → Spec → Nat → List CV → Prop} : mtC o a tb m k ↔ @mtCH o a tb m ⟨k⟩ := ⟨fun w => w, fun w => w⟩
def exCH (o : Option CO) (a : Nat) (y : CV) (h : CH) [Q : Hid (WQ)] : Prop := exC o a y h Q.val
theorem h_exC (o : Option CO) (a : Nat) (y : CV) (h : CH) {Q : WQ} : exC o a y h Q ↔ @exCH o a y h ⟨Q⟩ := ⟨fun w => w, fun w => w⟩
def lenCH (o : Option CO) (tb : List (Addr × Spec × Nat × List CV)) (a : Nat) (h : CH) [Q : Hid (WQ)] [E : Hid (WX')] : Prop := lenC o tb a h Q.val E.val
theorem h_lenC (o : Option CO) (tb : List (Addr × Spec × Nat × List CV)) (a : Nat) (h : CH) {Q : WQ} {E : WX'} : lenC o tb a h Q E ↔ @lenCH o tb a h ⟨Q⟩ ⟨E⟩ := ⟨fun w => w, fun w => w⟩
def eqORH (ob : List Addr) (neg : Bool) (x y : CR) (h : CH) [Q : Hid (WQ)] : Prop := eqOR ob neg x y h Q.val
theorem h_eqOR (ob : List Addr) (neg : Bool) (x y : CR) (h : CH) {Q : WQ} : eqOR ob neg x y h Q ↔ @eqORH ob neg x y h ⟨Q⟩ := ⟨fun w => w, fun w => w⟩
def eqIRH (tb : List (Addr × Spec × Nat × List CV)) (neg : Bool) (x y : CR) (h : CH) [Q : Hid (WQ)] [E : Hid (WX')] : Prop := eqIR tb neg x y h Q.val E.val
theorem h_eqIR (tb : List (Addr × Spec × Nat × List CV)) (neg : Bool) (x y : CR) (h : CH) {Q : WQ} {E : WX'} : eqIR tb neg x y h Q E ↔ @eqIRH tb neg x y h ⟨Q⟩ ⟨E⟩ := ⟨fun w => w, fun w => w⟩
def eqMRH (ob : List Addr) (tb : List (Addr × Spec × Nat × List CV)) (neg : Bool) (x y : CR) (h : CH) [Q : Hid (WQ)] [E : Hid (WX')] : Prop := eqMR ob tb neg x y h Q.val E.val
theorem h_eqMR (ob : List Addr) (tb : List (Addr × Spec × Nat × List CV)) (neg : Bool) (x y : CR) (h : CH) {Q : WQ} {E : WX'} : eqMR ob tb neg x y h Q E ↔ @eqMRH ob tb neg x y h ⟨Q⟩ ⟨E⟩ := ⟨fun w => w, fun w => w⟩
def bmCH (o : Option CO) (m : Bm) (a : Nat) (rs : List CV) (h : CH) [Q : Hid (WQ)] : Prop := bmC o m a rs h Q.val
theorem h_bmC (o : Option CO) (m : Bm) (a : Nat) (rs : List CV) (h : CH) {Q : WQ} : bmC o m a rs h Q ↔ @bmCH o m a rs h ⟨Q⟩ := ⟨fun w => w, fun w => w⟩
def apCH (o : Option CO) (a : Nat) (x : CV) (h : CH) [Q : Hid (WQ)] : Prop := apC o a x h Q.val
theorem h_apC (o : Option CO) (a : Nat) (x : CV) (h : CH) {Q : WQ} : apC o a x h Q ↔ @apCH o a x h ⟨Q⟩ := ⟨fun w => w, fun w => w⟩
section
variable {σ : CSt} {h : CH} {Q : WQ} {E ex : WX'} {n bk ct : CSt → CH → Prop} {rt : WQ} {k : Bool → CH → Prop} {kA : List CR → CH → Prop} {kO : Option Int → CH → Prop} {kI : List CV → (CH → Prop) → CH → Prop} {D : CEnds}
theorem x_skip  : wS .skip ⟨n, rt, bk, ct, ex⟩ σ h ↔ n σ h := ⟨fun w => w, fun w => w⟩
theorem x_seq {a b : CS} : wS (.seq a b) ⟨n, rt, bk, ct, ex⟩ σ h ↔ wS a ⟨wS b ⟨n, rt, bk, ct, ex⟩, rt, bk, ct, ex⟩ σ h := ⟨fun w => w, fun w => w⟩
theorem x_asg {i : Nat} {e : CE} : wS (.asg i e) ⟨n, rt, bk, ct, ex⟩ σ h ↔ wE e σ h (fun r h1 => adopt r h1 fun x h2 => n (sv σ i x) h2) ex := ⟨fun w => w, fun w => w⟩
theorem x_asgT {t : CT} {e : CE} : wS (.asgT t e) ⟨n, rt, bk, ct, ex⟩ σ h ↔ wE e σ h (fun r h1 => inV r fun x => oP (wG t x σ) fun σ2 => n σ2 h1) ex := ⟨fun w => w, fun w => w⟩
theorem x_asgS {i j : Nat} {e : CE} : wS (.asgS i j e) ⟨n, rt, bk, ct, ex⟩ σ h ↔ wE e σ h (fun r h1 => oP (lsOf r h1) fun xs => hdP xs fun x rest => n (sv (sv σ i x) j (.lst rest)) h1) ex := ⟨fun w => w, fun w => w⟩
theorem x_asgD {is : List Nat} {as : CA} : wS (.asgD is as) ⟨n, rt, bk, ct, ex⟩ σ h ↔ wA as σ h (fun rs h1 => adopts rs h1 fun xs h2 => xs.length = is.length ∧ n (svs σ is xs) h2) ex := ⟨fun w => w, fun w => w⟩
theorem x_setIx {o i e : CE} : wS (.setIx o i e) ⟨n, rt, bk, ct, ex⟩ σ h ↔ wE e σ h (fun r h1 => adopt r h1 fun x h2 => wE o σ h2 (fun ro h3 => wE i σ h3 (fun ri h4 => stIx ro ri x h4 fun h5 => n σ h5) ex) ex) ex := ⟨fun w => w, fun w => w⟩
theorem x_setFld {o e : CE} {f : Str} {cs : List Addr} : wS (.setFld o f cs e) ⟨n, rt, bk, ct, ex⟩ σ h ↔ wE e σ h (fun r h1 => adopt r h1 fun x h2 => wE o σ h2 (fun ro h3 => stFld ro f cs x h3 fun h4 => n σ h4) ex) ex := ⟨fun w => w, fun w => w⟩
theorem x_aug {op : Operator} {i : Nat} {e : CE} : wS (.aug op i e) ⟨n, rt, bk, ct, ex⟩ σ h ↔ vI (gv σ i) fun x => wE e σ h (fun r h1 => inI r fun y => binA op x y fun m => n (sv σ i (.int m)) h1) ex := ⟨fun w => w, fun w => w⟩
theorem x_augFld {op : Operator} {o e : CE} {f : Str} {cs : List Addr} : wS (.augFld op o f cs e) ⟨n, rt, bk, ct, ex⟩ σ h ↔ wE o σ h (fun ro h1 => agFld ro f cs h1 fun a C fs x => wE e σ h1 (fun r h2 => inI r fun y => h2[a]? = some (.ins C fs) ∧ binA op x y fun m => n σ (h2.set a (.ins C (putC f (.int m) fs)))) ex) ex := ⟨fun w => w, fun w => w⟩
theorem x_ret {e : CE} : wS (.ret e) ⟨n, rt, bk, ct, ex⟩ σ h ↔ wE e σ h rt ex := ⟨fun w => w, fun w => w⟩
theorem x_ex {e : CE} : wS (.ex e) ⟨n, rt, bk, ct, ex⟩ σ h ↔ wE e σ h (fun _ h1 => n σ h1) ex := ⟨fun w => w, fun w => w⟩
theorem x_ifS {c : CB} {a b : CS} : wS (.ife c a b) ⟨n, rt, bk, ct, ex⟩ σ h ↔ wB c σ h (fun k h1 => cnd k (wS a ⟨n, rt, bk, ct, ex⟩ σ h1) (wS b ⟨n, rt, bk, ct, ex⟩ σ h1)) ex := ⟨fun w => w, fun w => w⟩
theorem x_for {t : CT} {it : CI} {b : CS} : wS (.forr t it b) ⟨n, rt, bk, ct, ex⟩ σ h ↔ wI it σ h (fun xs G h1 => wLoop xs G (fun x σ h2 N => oP (wG t x σ) fun σ2 => wS b ⟨N, rt, n, N, ex⟩ σ2 h2) n σ h1) ex := ⟨fun w => w, fun w => w⟩
theorem x_brk  : wS .brk ⟨n, rt, bk, ct, ex⟩ σ h ↔ bk σ h := ⟨fun w => w, fun w => w⟩
theorem x_bad  : wS .bad D σ h ↔ False := ⟨fun w => w, fun w => w⟩
theorem x_badE  : wE .bad σ h Q E ↔ False := ⟨fun w => w, fun w => w⟩
theorem x_cont  : wS .cont ⟨n, rt, bk, ct, ex⟩ σ h ↔ ct σ h := ⟨fun w => w, fun w => w⟩
theorem x_ret0 {a : CS} {h0 : CH} : wS a (ret0 h0 Q E) σ h ↔ wS a ⟨fun _ h1 => gcd h0 Q (.v .non) h1, gcd h0 Q, fun _ _ => False, fun _ _ => False, E⟩ σ h := ⟨fun w => w, fun w => w⟩
theorem x_con {v : CV} : wE (.con v) σ h Q E ↔ Q (.v v) h := ⟨fun w => w, fun w => w⟩
theorem x_var {i : Nat} : wE (.var i) σ h Q E ↔ vr (gv σ i) h Q := ⟨fun w => w, fun w => w⟩
theorem x_thaw {e : CE} : wE (.thaw e) σ h Q E ↔ wE e σ h (fun r h1 => thw r h1 Q) E := ⟨fun w => w, fun w => w⟩
theorem x_cool {e : CE} : wE (.cool e) σ h Q E ↔ wE e σ h (gcd h Q) E := ⟨fun w => w, fun w => w⟩
theorem x_maxD {a d : CE} : wE (.maxD a d) σ h Q E ↔ wE a σ h (fun x h1 => wE d σ h1 (fun y h2 => oP ((tpOf x).bind intsOf) fun ns => inI y fun m => Q (.v (.int (maxDI ns m))) h2) E) E := ⟨fun w => w, fun w => w⟩
theorem x_bin {op : Operator} {a b : CE} : wE (.bin op a b) σ h Q E ↔ wE a σ h (fun x h1 => wE b σ h1 (fun y h2 => binR op x y h2 Q) E) E := ⟨fun w => w, fun w => w⟩
theorem x_neg {a : CE} : wE (.neg a) σ h Q E ↔ wE a σ h (fun x h1 => inI x fun i => Q (.v (.int (-i))) h1) E := ⟨fun w => w, fun w => w⟩
theorem x_nt {a : CB} : wE (.nt a) σ h Q E ↔ wB a σ h (fun b h1 => Q (.v (.bl (!b))) h1) E := ⟨fun w => w, fun w => w⟩
theorem x_cmp {op : CmpOp} {a b : CE} : wE (.cmp op a b) σ h Q E ↔ wE a σ h (fun x h1 => wE b σ h1 (fun y h2 => cmpR op x y h2 Q) E) E := ⟨fun w => w, fun w => w⟩
theorem x_chn {o1 o2 : CmpOp} {a b c : CE} : wE (.chn o1 o2 a b c) σ h Q E ↔ wE a σ h (fun x h1 => wE b σ h1 (fun y h2 => cmpR o1 x y h2 fun r h3 => inB r fun k => cnd k (wE c σ h3 (fun z h4 => cmpR o2 y z h4 Q) E) (Q (.v (.bl false)) h3)) E) E := ⟨fun w => w, fun w => w⟩
theorem x_an {a b : CE} : wE (.an a b) σ h Q E ↔ wE a σ h (fun x h1 => oP (truC x h1) fun k => cnd k (wE b σ h1 Q E) (Q x h1)) E := ⟨fun w => w, fun w => w⟩
theorem x_orr {a b : CE} : wE (.orr a b) σ h Q E ↔ wE a σ h (fun x h1 => oP (truC x h1) fun k => cnd k (Q x h1) (wE b σ h1 Q E)) E := ⟨fun w => w, fun w => w⟩
theorem x_ife {c : CB} {a b : CE} : wE (.ife c a b) σ h Q E ↔ wB c σ h (fun k h1 => cnd k (wE a σ h1 Q E) (wE b σ h1 Q E)) E := ⟨fun w => w, fun w => w⟩
theorem x_tup {as : CA} : wE (.tup as) σ h Q E ↔ wA as σ h (fun rs h1 => rs.length ≤ sizeLine ∧ adopts rs h1 fun xs h2 => Q (.v (.tup xs)) h2) E := ⟨fun w => w, fun w => w⟩
theorem x_lst {as : CA} : wE (.lst as) σ h Q E ↔ wA as σ h (fun rs h1 => rs.length ≤ sizeLine ∧ adopts rs h1 fun xs h2 => Q (.al xs) h2) E := ⟨fun w => w, fun w => w⟩
theorem x_ix {a b : CE} : wE (.ix a b) σ h Q E ↔ wE a σ h (fun x h1 => wE b σ h1 (fun y h2 => ixR x y h2 Q) E) E := ⟨fun w => w, fun w => w⟩
theorem x_sl {a : CE} {lo hi : CO1} : wE (.sl a lo hi) σ h Q E ↔ wE a σ h (fun x h1 => wO lo σ h1 (fun l h2 => wO hi σ h2 (fun u h3 => slR x l u h3 Q) E) E) E := ⟨fun w => w, fun w => w⟩
theorem x_sl3 {a : CE} {lo hi st : CO1} : wE (.sl3 a lo hi st) σ h Q E ↔ wE a σ h (fun x h1 => wO lo σ h1 (fun l h2 => wO hi σ h2 (fun u h3 => wO st σ h3 (fun t h4 => sl3R x l u t h4 Q) E) E) E) E := ⟨fun w => w, fun w => w⟩
theorem x_srev {a : CE} : wE (.srev a) σ h Q E ↔ wE a σ h (fun x h1 => srR x h1 Q) E := ⟨fun w => w, fun w => w⟩
theorem x_fld {o : CE} {f : Str} {cs : List Addr} : wE (.fld o f cs) σ h Q E ↔ wE o σ h (fun x h1 => fldR x f cs h1 Q) E := ⟨fun w => w, fun w => w⟩
theorem x_call {sp : Spec} {m : Nat} {ds : List CV} {as : CA} : wE (.call sp m ds as) σ h Q E ↔ wA as σ h (fun rs h1 => adopts rs h1 fun xs h2 => (xs ++ ds).length = m ∧ ap sp (xs ++ ds) h2 Q E) E := ⟨fun w => w, fun w => w⟩
theorem x_callk {sp : Spec} {np nk : Nat} {ar : List Src} {as ks : CA} : wE (.callk sp np nk ar as ks) σ h Q E ↔ wA as σ h (fun rs h1 => wA ks σ h1 (fun rs2 h2 => adopts (rs ++ rs2) h2 fun xs h4 => (rs.length = np ∧ rs2.length = nk) ∧ ap sp (arC ar (xs.take np) (xs.drop np)) h4 Q E) E) E := ⟨fun w => w, fun w => w⟩
theorem x_newk {C : Addr} {sp : Spec} {np nk : Nat} {ar : List Src} {as ks : CA} : wE (.newk C sp np nk ar as ks) σ h Q E ↔ wA as σ h (fun rs h1 => wA ks σ h1 (fun rs2 h2 => adopts (rs ++ rs2) h2 fun xs h4 => (rs.length = np ∧ rs2.length = nk) ∧ ap sp (arC ar (.ref h4.length :: xs.take np) (xs.drop np)) (h4 ++ [.ins C []]) (fun r h5 => r = .v .non ∧ Q (.v (.ref h4.length)) h5) E) E) E := ⟨fun w => w, fun w => w⟩
theorem x_lrng {t : Bool} {a b : CE} : wE (.lrng t a b) σ h Q E ↔ wE a σ h (fun x h1 => wE b σ h1 (fun y h2 => inI x fun i => inI y fun j => (-(2 ^ 62) ≤ i ∧ i < 2 ^ 62 ∧ -(2 ^ 62) ≤ j ∧ j < 2 ^ 62 ∧ (j - i).toNat ≤ 2 ^ 24) ∧ Q (cnvR t ((List.range (j - i).toNat).map fun (k : Nat) => .int (i + (k : Int)))) h2) E) E := ⟨fun w => w, fun w => w⟩
theorem x_lnrg {a : CE} : wE (.lnrg a) σ h Q E ↔ wE a σ h (fun x h1 => inI x fun j => j < 2 ^ 62 ∧ Q (.v (.int j.toNat)) h1) E := ⟨fun w => w, fun w => w⟩
theorem x_lenI {tb : List (Addr × Spec × Nat × List CV)} {e : CE} : wE (.lenI tb e) σ h Q E ↔ wE e σ h (fun x h1 => lenR tb x h1 Q E) E := ⟨fun w => w, fun w => w⟩
theorem x_cmpO {ob : List Addr} {neg : Bool} {a b : CE} : wE (.cmpO ob neg a b) σ h Q E ↔ wE a σ h (fun x h1 => wE b σ h1 (fun y h2 => eqOR ob neg x y h2 Q) E) E := ⟨fun w => w, fun w => w⟩
theorem x_cmpM {ob : List Addr} {tb : List (Addr × Spec × Nat × List CV)} {neg : Bool} {a b : CE} : wE (.cmpM ob tb neg a b) σ h Q E ↔ wE a σ h (fun x h1 => wE b σ h1 (fun y h2 => eqMR ob tb neg x y h2 Q E) E) E := ⟨fun w => w, fun w => w⟩
theorem x_cmpI {tb : List (Addr × Spec × Nat × List CV)} {neg : Bool} {a b : CE} : wE (.cmpI tb neg a b) σ h Q E ↔ wE a σ h (fun x h1 => wE b σ h1 (fun y h2 => eqIR tb neg x y h2 Q E) E) E := ⟨fun w => w, fun w => w⟩
theorem x_lenL {tb : List (Addr × Spec × Nat × List CV)} {xs : List CV} : lenR tb (.v (.lst xs)) h Q E ↔ Q (.v (.int xs.length)) h := ⟨fun w => w, fun w => w⟩
theorem x_lenA {tb : List (Addr × Spec × Nat × List CV)} {xs : List CV} : lenR tb (.al xs) h Q E ↔ Q (.v (.int xs.length)) h := ⟨fun w => w, fun w => w⟩
theorem x_lenT {tb : List (Addr × Spec × Nat × List CV)} {xs : List CV} : lenR tb (.v (.tup xs)) h Q E ↔ Q (.v (.int xs.length)) h := ⟨fun w => w, fun w => w⟩
theorem x_lenO {tb : List (Addr × Spec × Nat × List CV)} {C : Addr} {ns : List Str} {xs : List CV} : lenR tb (.v (.obj C ns xs)) h Q E ↔ oP (look tb C) fun t => (CV.obj C ns xs :: t.2.2).length = t.2.1 ∧ ap t.1 (CV.obj C ns xs :: t.2.2) h (fun r h1 => inI r fun i => (0 ≤ i ∧ i < 2 ^ 63) ∧ Q (.v (.int i)) h1) E := ⟨fun w => w, fun w => w⟩
theorem x_lenR {tb : List (Addr × Spec × Nat × List CV)} {a : Nat} : lenR tb (.v (.ref a)) h Q E ↔ lenC (h[a]?) tb a h Q E := lenC_iff
theorem x_lenCi {tb : List (Addr × Spec × Nat × List CV)} {C : Addr} {a : Nat} {fs : List (Str × CV)} : @lenCH (some (.ins C fs)) tb a h ⟨Q⟩ ⟨E⟩ ↔ oP (look tb C) fun t => (CV.ref a :: t.2.2).length = t.2.1 ∧ ap t.1 (CV.ref a :: t.2.2) h (fun r h1 => inI r fun i => (0 ≤ i ∧ i < 2 ^ 63) ∧ Q (.v (.int i)) h1) E := ⟨fun w => w, fun w => w⟩
theorem x_lenCl {tb : List (Addr × Spec × Nat × List CV)} {a : Nat} {xs : List CV} : @lenCH (some (.lst xs)) tb a h ⟨Q⟩ ⟨E⟩ ↔ Q (.v (.int xs.length)) h := ⟨fun w => w, fun w => w⟩
theorem x_lenCf {tb : List (Addr × Spec × Nat × List CV)} {a : Nat} {xs : List CV} : @lenCH (some (.fro xs)) tb a h ⟨Q⟩ ⟨E⟩ ↔ Q (.v (.int xs.length)) h := ⟨fun w => w, fun w => w⟩
theorem x_new {C : Addr} {sp : Spec} {m : Nat} {ds : List CV} {as : CA} : wE (.new C sp m ds as) σ h Q E ↔ wA as σ h (fun rs h1 => adopts rs h1 fun xs h2 => (xs ++ ds).length + 1 = m ∧ ap sp (.ref h2.length :: (xs ++ ds)) (h2 ++ [.ins C []]) (fun r h3 => r = .v .non ∧ Q (.v (.ref h2.length)) h3) E) E := ⟨fun w => w, fun w => w⟩
theorem x_mth {tb : List (Addr × Spec × Nat × List CV)} {m : Str} {o : CE} {as : CA} : wE (.mth tb m o as) σ h Q E ↔ wE o σ h (fun x h1 => mthR x tb m h1 fun v sp n ds => wA as σ h1 (fun rs h2 => adopts rs h2 fun xs h3 => (xs ++ ds).length + 1 = n ∧ ap sp (v :: (xs ++ ds)) h3 Q E) E) E := ⟨fun w => w, fun w => w⟩
theorem x_blt {b : Blt} {as : CA} : wE (.blt b as) σ h Q E ↔ wA as σ h (fun rs h1 => bltR b rs h1 Q) E := ⟨fun w => w, fun w => w⟩
theorem x_bm {m : Bm} {o : CE} {as : CA} : wE (.bm m o as) σ h Q E ↔ wE o σ h (fun x h1 => (lsOf x h1).isSome = true ∧ wA as σ h1 (fun rs h2 => adopts rs h2 fun xs h3 => bmR m x xs h3 Q) E) E := ⟨fun w => w, fun w => w⟩
theorem x_isi {e : CE} {t : Ty} {cs : List Addr} : wE (.isi e t cs) σ h Q E ↔ wE e σ h (fun x h1 => oP (isT t cs x h1) fun b => Q (.v (.bl b)) h1) E := ⟨fun w => w, fun w => w⟩
theorem x_lc {own : List Nat} {t : CT} {it : CI} {c : CB} {e : CE} : wE (.lc own t it c e) σ h Q E ↔ wI it σ h (fun xs G h1 => xs.length < sizeLine ∧ wComp xs G (fun x acc h2 N => oP (wG t x (uvs σ own)) fun σ2 =>
      wB c σ2 h2 (fun b h3 => cnd b (wE e σ2 h3 (fun r h4 => adopt r h4 fun y h5 => N (acc ++ [y]) h5) (fun _ _ => False)) (N acc h3)) (fun _ _ => False)) (fun acc h2 => Q (.al acc) h2) [] h1) E := ⟨fun w => w, fun w => w⟩
theorem x_lc2 {own : List Nat} {t t1 : CT} {it it1 : CI} {c c1 : CB} {e : CE} : wE (.lc2 own t it c t1 it1 c1 e) σ h Q E ↔ wI it σ h (fun xs G h1 => wComp xs G (fun x acc h2 N => oP (wG t x (uvs σ own)) fun σ2 =>
      wB c σ2 h2 (fun b h3 => cnd b (wI it1 σ2 h3 (fun ys G1 h4 => wComp ys G1 (fun y acc1 h5 N1 => oP (wG t1 y (uvs σ2 (ctN t1))) fun σ3 =>
        wB c1 σ3 h5 (fun b1 h6 => cnd b1 (wE e σ3 h6 (fun r h7 => adopt r h7 fun z h8 => acc1.length < sizeLine ∧ N1 (acc1 ++ [z]) h8) (fun _ _ => False)) (N1 acc1 h6)) (fun _ _ => False)) N acc h4) (fun _ _ => False)) (N acc h3)) (fun _ _ => False)) (fun acc h2 => Q (.al acc) h2) [] h1) E := ⟨fun w => w, fun w => w⟩
theorem x_yes  : wB .yes σ h k E ↔ k true h := ⟨fun w => w, fun w => w⟩
theorem x_val {e : CE} : wB (.val e) σ h k E ↔ wE e σ h (fun x h1 => oP (truC x h1) fun b => k b h1) E := ⟨fun w => w, fun w => w⟩
theorem x_ntB {a : CB} : wB (.nt a) σ h k E ↔ wB a σ h (fun b h1 => k (!b) h1) E := ⟨fun w => w, fun w => w⟩
theorem x_anB {a b : CB} : wB (.an a b) σ h k E ↔ wB a σ h (fun c h1 => cnd c (wB b σ h1 k E) (k false h1)) E := ⟨fun w => w, fun w => w⟩
theorem x_orB {a b : CB} : wB (.orr a b) σ h k E ↔ wB a σ h (fun c h1 => cnd c (k true h1) (wB b σ h1 k E)) E := ⟨fun w => w, fun w => w⟩
theorem x_oN  : wO .none σ h kO E ↔ kO none h := ⟨fun w => w, fun w => w⟩
theorem x_oS {e : CE} : wO (.some e) σ h kO E ↔ wE e σ h (fun x h1 => partI x fun i => kO i h1) E := ⟨fun w => w, fun w => w⟩
theorem x_nil  : wA .nil σ h kA E ↔ kA [] h := ⟨fun w => w, fun w => w⟩
theorem x_cons {e : CE} {r : CA} : wA (.cons e r) σ h kA E ↔ wE e σ h (fun x h1 => wA r σ h1 (fun xs h2 => kA (x :: xs) h2) E) E := ⟨fun w => w, fun w => w⟩
theorem x_ival {e : CE} : wI (.val e) σ h kI E ↔ wE e σ h (fun x h1 => oP (sqOf x h1) fun xs => kI xs (gdOf x h1) h1) E := ⟨fun w => w, fun w => w⟩
theorem x_rng1 {a : CE} : wI (.rng1 a) σ h kI E ↔ wE a σ h (fun x h1 => inI x fun j => (-(2 ^ 62) ≤ j ∧ j < 2 ^ 62) ∧ kI ((List.range j.toNat).map fun (k : Nat) => .int (k : Int)) (fun _ => True) h1) E := ⟨fun w => w, fun w => w⟩
theorem x_rng2 {a b : CE} : wI (.rng2 a b) σ h kI E ↔ wE a σ h (fun x h1 => wE b σ h1 (fun y h2 => inI x fun i => inI y fun j => (-(2 ^ 62) ≤ i ∧ i < 2 ^ 62 ∧ -(2 ^ 62) ≤ j ∧ j < 2 ^ 62) ∧ kI ((List.range (j - i).toNat).map fun (k : Nat) => .int (i + (k : Int))) (fun _ => True) h2) E) E := ⟨fun w => w, fun w => w⟩
theorem x_rng3 {a b c : CE} : wI (.rng3 a b c) σ h kI E ↔ wE a σ h (fun x h1 => wE b σ h1 (fun y h2 => wE c σ h2 (fun z h3 => inI x fun i => inI y fun j => inI z fun k => (-(2 ^ 60) ≤ i ∧ i < 2 ^ 60 ∧ -(2 ^ 60) ≤ j ∧ j < 2 ^ 60 ∧ 0 < k ∧ k < 2 ^ 29) ∧ kI ((List.range ((j - i + (k - 1)) / k).toNat).map fun (q : Nat) => .int (i + (q : Int) * k)) (fun _ => True) h3) E) E) E := ⟨fun w => w, fun w => w⟩
theorem x_enum {e : CE} : wI (.enum e) σ h kI E ↔ wE e σ h (fun x h1 => oP (sqOf x h1) fun xs => kI (xs.zipIdx.map fun (x, k) => .tup [.int (k : Int), x]) (gdOf x h1) h1) E := ⟨fun w => w, fun w => w⟩
theorem x_enumz {a b : CE} : wI (.enumz a b) σ h kI E ↔ wE a σ h (fun x h1 => wE b σ h1 (fun y h2 => oP (sqOf x h2) fun xs => oP (sqOf y h2) fun ys => kI ((List.zipWith (fun x y => .tup [x, y]) xs ys).zipIdx.map fun (x, k) => .tup [.int (k : Int), x]) (fun h1 => gdOf x h2 h1 ∧ gdOf y h2 h1) h2) E) E := ⟨fun w => w, fun w => w⟩
theorem x_zip {a b : CE} : wI (.zip a b) σ h kI E ↔ wE a σ h (fun x h1 => wE b σ h1 (fun y h2 => oP (sqOf x h2) fun xs => oP (sqOf y h2) fun ys => kI (List.zipWith (fun x y => .tup [x, y]) xs ys) (fun h1 => gdOf x h2 h1 ∧ gdOf y h2 h1) h2) E) E := ⟨fun w => w, fun w => w⟩
theorem x_rev {e : CE} : wI (.rev e) σ h kI E ↔ wE e σ h (fun x h1 => oP (sqOf x h1) fun xs => kI xs.reverse (gdOf x h1) h1) E := ⟨fun w => w, fun w => w⟩
theorem x_oPs {α : Type} {x : α} {kk : α → Prop} : @oPH α (some x) ⟨kk⟩ ↔ kk x := ⟨fun w => w, fun w => w⟩
theorem x_vrs {x : CV} : @vrH (some x) h ⟨Q⟩ ↔ Q (.v x) h := ⟨fun w => w, fun w => w⟩
theorem x_vIs {i : Int} {kk : Int → Prop} : @vIH (some (.int i)) ⟨kk⟩ ↔ kk i := ⟨fun w => w, fun w => w⟩
theorem x_inI {i : Int} {kk : Int → Prop} : inI (.v (.int i)) kk ↔ kk i := ⟨fun w => w, fun w => w⟩
theorem x_inB {i : Bool} {kk : Bool → Prop} : inB (.v (.bl i)) kk ↔ kk i := ⟨fun w => w, fun w => w⟩
theorem x_inV {i : CV} {kk : CV → Prop} : inV (.v i) kk ↔ kk i := ⟨fun w => w, fun w => w⟩
theorem x_toI {i : Int} {kk : Int → Prop} : toI (.v (.int i)) kk ↔ kk i := ⟨fun w => w, fun w => w⟩
theorem x_toIb {b : Bool} {kk : Int → Prop} : toI (.v (.bl b)) kk ↔ kk (if b then 1 else 0) := ⟨fun w => w, fun w => w⟩
theorem x_toB {i : Int} {kk : Bool → Prop} : toB (.v (.int i)) kk ↔ kk (i != 0) := ⟨fun w => w, fun w => w⟩
theorem x_toBb {b : Bool} {kk : Bool → Prop} : toB (.v (.bl b)) kk ↔ kk b := ⟨fun w => w, fun w => w⟩
theorem x_cT {A B : Prop} : @cndH true ⟨A⟩ ⟨B⟩ ↔ A := ⟨fun w => w, fun w => w⟩
theorem x_cF {A B : Prop} : @cndH false ⟨A⟩ ⟨B⟩ ↔ B := ⟨fun w => w, fun w => w⟩
theorem x_cN {b : Bool} {A B : Prop} : @cndH (!b) ⟨A⟩ ⟨B⟩ ↔ @cndH b ⟨B⟩ ⟨A⟩ := by cases b <;> exact ⟨fun w => w, fun w => w⟩
theorem x_thwA {xs : List CV} : thw (.al xs) h Q ↔ Q (.v (.ref h.length)) (h ++ [.lst xs]) := ⟨fun w => w, fun w => w⟩
theorem x_thwV {x : CV} : thw (.v x) h Q ↔ Q (.v x) h := ⟨fun w => w, fun w => w⟩
theorem x_adV {x : CV} {kk : CV → CH → Prop} : adopt (.v x) h kk ↔ kk x h := ⟨fun w => w, fun w => w⟩
theorem x_adA {x : List CV} {kk : CV → CH → Prop} : adopt (.al x) h kk ↔ kk (.lst x) h := ⟨fun w => w, fun w => w⟩
theorem x_asN {kk : List CV → CH → Prop} : adopts [] h kk ↔ kk [] h := ⟨fun w => w, fun w => w⟩
theorem x_asV {x : CV} {rs : List CR} {kk : List CV → CH → Prop} : adopts (.v x :: rs) h kk ↔ adopts rs h (fun xs h2 => kk (x :: xs) h2) := ⟨fun w => w, fun w => w⟩
theorem x_asA {x : List CV} {rs : List CR} {kk : List CV → CH → Prop} : adopts (.al x :: rs) h kk ↔ adopts rs h (fun xs h2 => kk (.lst x :: xs) h2) := ⟨fun w => w, fun w => w⟩
theorem x_fldO {C : Addr} {ns : List Str} {xs : List CV} {f : Str} {cs : List Addr} : fldR (.v (.obj C ns xs)) f cs h Q ↔ C ∈ cs ∧ oP ((ns.zip xs).lookup f) fun v => Q (.v v) h := ⟨fun w => w, fun w => w⟩
theorem x_ixN {xs : List CV} {i : Int} {kk : Nat → Prop} : ixN' xs i kk ↔ oP (ixN xs.length i) kk := ⟨fun w => w, fun w => w⟩
theorem x_mthO {C : Addr} {ns : List Str} {ys : List CV} {tb : List (Addr × Spec × Nat × List CV)} {m : Str} {kk : CV → Spec → Nat → List CV → Prop} : mthR (.v (.obj C ns ys)) tb m h kk ↔ oP (look tb C) fun t => (ns.zip ys).lookup m = none ∧ kk (.obj C ns ys) t.1 t.2.1 t.2.2 := ⟨fun w => w, fun w => w⟩
theorem x_bII {op : Operator} {i j : Int} : binR op (.v (.int i)) (.v (.int j)) h Q ↔ binI op i j fun m => Q (.v (.int m)) h := ⟨fun w => w, fun w => w⟩
theorem x_bTI {a : List CV} {i : Int} : binR .Mult (.v (.tup a)) (.v (.int i)) h Q ↔ (0 < a.length ∧ a.length ≤ 1000 ∧ -1000 ≤ i ∧ i ≤ 1000) ∧ Q (.v (.tup (List.replicate i.toNat a).flatten)) h := ⟨fun w => ⟨⟨w.2.1, w.2.2.1, w.2.2.2.1, w.2.2.2.2.1⟩, w.2.2.2.2.2⟩, fun w => ⟨rfl, w.1.1, w.1.2.1, w.1.2.2.1, w.1.2.2.2, w.2⟩⟩
theorem x_bTT {a b : List CV} : binR .Add (.v (.tup a)) (.v (.tup b)) h Q ↔ a.length + b.length ≤ sizeLine ∧ Q (.v (.tup (a ++ b))) h := ⟨fun w => w.2, fun w => ⟨rfl, w⟩⟩
theorem x_blAA {a b : List CV} : binR .Add (.al a) (.al b) h Q ↔ a.length + b.length ≤ sizeLine ∧ Q (.al (a ++ b)) h := ⟨fun w => w.2, fun w => ⟨rfl, w⟩⟩
theorem x_blAL {a b : List CV} : binR .Add (.al a) (.v (.lst b)) h Q ↔ a.length + b.length ≤ sizeLine ∧ Q (.al (a ++ b)) h := ⟨fun w => w.2, fun w => ⟨rfl, w⟩⟩
theorem x_bmA {a : List CV} {m : Int} : binR .Mult (.al a) (.v (.int m)) h Q ↔ -(2 ^ 63) ≤ m ∧ m < 2 ^ 63 ∧ a.length * m.toNat ≤ sizeLine ∧ Q (.al (List.replicate m.toNat a).flatten) h := ⟨fun w => w.2, fun w => ⟨rfl, w⟩⟩
theorem x_blLA {a b : List CV} : binR .Add (.v (.lst a)) (.al b) h Q ↔ a.length + b.length ≤ sizeLine ∧ Q (.al (a ++ b)) h := ⟨fun w => w.2, fun w => ⟨rfl, w⟩⟩
theorem x_blLL {a b : List CV} : binR .Add (.v (.lst a)) (.v (.lst b)) h Q ↔ a.length + b.length ≤ sizeLine ∧ Q (.al (a ++ b)) h := ⟨fun w => w.2, fun w => ⟨rfl, w⟩⟩
theorem x_bmL {a : List CV} {m : Int} : binR .Mult (.v (.lst a)) (.v (.int m)) h Q ↔ -(2 ^ 63) ≤ m ∧ m < 2 ^ 63 ∧ a.length * m.toNat ≤ sizeLine ∧ Q (.al (List.replicate m.toNat a).flatten) h := ⟨fun w => w.2, fun w => ⟨rfl, w⟩⟩
theorem x_blRA {a : Nat} {b : List CV} : binR .Add (.v (.ref a)) (.al b) h Q ↔ oP (lsM (.v (.ref a)) h) fun a => oP (lsM (.al b) h) fun b => a.length + b.length ≤ sizeLine ∧ Q (.al (a ++ b)) h := binL_iff
theorem x_blRL {a : Nat} {b : List CV} : binR .Add (.v (.ref a)) (.v (.lst b)) h Q ↔ oP (lsM (.v (.ref a)) h) fun a => oP (lsM (.v (.lst b)) h) fun b => a.length + b.length ≤ sizeLine ∧ Q (.al (a ++ b)) h := binL_iff
theorem x_blRR {a b : Nat} : binR .Add (.v (.ref a)) (.v (.ref b)) h Q ↔ oP (lsM (.v (.ref a)) h) fun a => oP (lsM (.v (.ref b)) h) fun b => a.length + b.length ≤ sizeLine ∧ Q (.al (a ++ b)) h := binL_iff
theorem x_blAR {a : Nat} {b : List CV} : binR .Add (.al b) (.v (.ref a)) h Q ↔ oP (lsM (.al b) h) fun b => oP (lsM (.v (.ref a)) h) fun a => b.length + a.length ≤ sizeLine ∧ Q (.al (b ++ a)) h := binL_iff
theorem x_blLR {a : Nat} {b : List CV} : binR .Add (.v (.lst b)) (.v (.ref a)) h Q ↔ oP (lsM (.v (.lst b)) h) fun b => oP (lsM (.v (.ref a)) h) fun a => b.length + a.length ≤ sizeLine ∧ Q (.al (b ++ a)) h := binL_iff
theorem x_binIp {i j : Int} {kk : Int → Prop} : binI .Add i j kk ↔ kk (i + j) := ⟨fun w => w, fun w => w⟩
theorem x_binIs {i j : Int} {kk : Int → Prop} : binI .Sub i j kk ↔ kk (i - j) := ⟨fun w => w, fun w => w⟩
theorem x_binIm {i j : Int} {kk : Int → Prop} : binI .Mult i j kk ↔ (CMul i j ∨ (i.natAbs < 2 ^ 1000 ∧ j.natAbs < 2 ^ 1000)) ∧ kk (i * j) := ⟨fun w => w, fun w => w⟩
theorem x_binId {i j : Int} {kk : Int → Prop} : binI .FloorDiv i j kk ↔ CDv i j ∧ kk (i / j) := ⟨fun w => w, fun w => w⟩
theorem x_binIr {i j : Int} {kk : Int → Prop} : binI .Mod i j kk ↔ 0 < j ∧ kk (i % j) := ⟨fun w => w, fun w => w⟩
theorem x_binAp {i j : Int} {kk : Int → Prop} : binA .Add i j kk ↔ kk (i + j) := ⟨fun w => w, fun w => w⟩
theorem x_binAs {i j : Int} {kk : Int → Prop} : binA .Sub i j kk ↔ kk (i - j) := ⟨fun w => w, fun w => w⟩
theorem x_binAm {i j : Int} {kk : Int → Prop} : binA .Mult i j kk ↔ (CMul i j ∨ (i.natAbs < 2 ^ 1000 ∧ j.natAbs < 2 ^ 1000)) ∧ kk (i * j) := ⟨fun w => w, fun w => w⟩
theorem x_binAd {i j : Int} {kk : Int → Prop} : binA .FloorDiv i j kk ↔ CDv i j ∧ kk (i / j) := ⟨fun w => w, fun w => w⟩
theorem x_binAr {i j : Int} {kk : Int → Prop} : binA .Mod i j kk ↔ 0 < j ∧ kk (i % j) := ⟨fun w => w, fun w => w⟩
theorem x_binIw {i j : Int} {kk : Int → Prop} : binI .Pow i j kk ↔ CPow i j ∧ kk (i ^ j.toNat) := ⟨fun w => w, fun w => w⟩
theorem x_lt {i j : Int} : cmpR .Lt (.v (.int i)) (.v (.int j)) h Q ↔ Q (.v (.bl (decide (i < j)))) h := ⟨fun w => w, fun w => w⟩
theorem x_le {i j : Int} : cmpR .LtE (.v (.int i)) (.v (.int j)) h Q ↔ Q (.v (.bl (decide (i ≤ j)))) h := ⟨fun w => w, fun w => w⟩
theorem x_gt {i j : Int} : cmpR .Gt (.v (.int i)) (.v (.int j)) h Q ↔ Q (.v (.bl (decide (j < i)))) h := ⟨fun w => w, fun w => w⟩
theorem x_ge {i j : Int} : cmpR .GtE (.v (.int i)) (.v (.int j)) h Q ↔ Q (.v (.bl (decide (j ≤ i)))) h := ⟨fun w => w, fun w => w⟩
theorem x_eq {x y : CR} : cmpR .Eq x y h Q ↔ eqR x y h fun b => Q (.v (.bl b)) h := ⟨fun w => w, fun w => w⟩
theorem x_ne {x y : CR} : cmpR .NotEq x y h Q ↔ eqR x y h fun b => Q (.v (.bl (!b))) h := ⟨fun w => w, fun w => w⟩
theorem x_is {x y : CR} : cmpR .Is x y h Q ↔ oP (isR x y h) fun b => Q (.v (.bl b)) h := ⟨fun w => w, fun w => w⟩
theorem x_isn {x y : CR} : cmpR .IsNot x y h Q ↔ oP (isR x y h) fun b => Q (.v (.bl (!b))) h := ⟨fun w => w, fun w => w⟩
theorem x_in {x y : CR} : cmpR .In x y h Q ↔ inR x y h fun b => Q (.v (.bl b)) h := ⟨fun w => w, fun w => w⟩
theorem x_nin {x y : CR} : cmpR .NotIn x y h Q ↔ inR x y h fun b => Q (.v (.bl (!b))) h := ⟨fun w => w, fun w => w⟩
theorem eqR_iff {x y : CR} {d e : PyData} {b : Bool} {kk : Bool → Prop} (hx : datR h x = some d) (hy : datR h y = some e) (sx : SeqAt.shaped d = true) (sy : SeqAt.shaped e = true) (hb : PyData.eqv d e = b) : eqR x y h kk ↔ kk b := by
  unfold eqR
  rw [hx, hy]
  show ((_ ∧ _) ∧ kk (PyData.eqv d e)) ↔ _
  rw [hb]
  exact ⟨fun w => w.2, fun w => ⟨⟨sx, sy⟩, w⟩⟩
theorem x_eqI {i j : Int} {kk : Bool → Prop} : @eqRH (.v (.int i)) (.v (.int j)) h ⟨kk⟩ ↔ kk (decide (i = j)) := eqR_iff (k_int.v i) (k_int.v j) (k_int.sh (n := 8) (h := h) (by decide) i) (k_int.sh (n := 8) (h := h) (by decide) j) (k_int.eqv (h := h) (n := 8) i j)
theorem x_eqT {a b : List Int} {kk : Bool → Prop} : @eqRH (.v (.tup (a.map .int))) (.v (.tup (b.map .int))) h ⟨kk⟩ ↔ kk (decide (a = b)) := have K := (k_int (h := h) (n := 7)).tup; eqR_iff (K.v a) (K.v b) (K.sh (by decide) a) (K.sh (by decide) b) (K.eqv a b)
theorem x_oInt {ob : List Addr} {neg : Bool} {y : CR} {i : Int} : @eqORH ob neg (.v (.int i)) y h ⟨Q⟩ ↔ eqR (.v (.int i)) y h fun b => Q (.v (.bl (neg ^^ b))) h := ⟨fun w => w, fun w => w⟩
theorem x_iInt {tb : List (Addr × Spec × Nat × List CV)} {neg : Bool} {y : CR} {i : Int} : @eqIRH tb neg (.v (.int i)) y h ⟨Q⟩ ⟨E⟩ ↔ eqR (.v (.int i)) y h fun b => Q (.v (.bl (neg ^^ b))) h := ⟨fun w => w, fun w => w⟩
theorem x_oBl {ob : List Addr} {neg : Bool} {y : CR} {b : Bool} : @eqORH ob neg (.v (.bl b)) y h ⟨Q⟩ ↔ eqR (.v (.bl b)) y h fun b => Q (.v (.bl (neg ^^ b))) h := ⟨fun w => w, fun w => w⟩
theorem x_iBl {tb : List (Addr × Spec × Nat × List CV)} {neg : Bool} {y : CR} {b : Bool} : @eqIRH tb neg (.v (.bl b)) y h ⟨Q⟩ ⟨E⟩ ↔ eqR (.v (.bl b)) y h fun b => Q (.v (.bl (neg ^^ b))) h := ⟨fun w => w, fun w => w⟩
theorem x_oNon {ob : List Addr} {neg : Bool} {y : CR}  : @eqORH ob neg (.v .non) y h ⟨Q⟩ ↔ eqR (.v .non) y h fun b => Q (.v (.bl (neg ^^ b))) h := ⟨fun w => w, fun w => w⟩
theorem x_iNon {tb : List (Addr × Spec × Nat × List CV)} {neg : Bool} {y : CR}  : @eqIRH tb neg (.v .non) y h ⟨Q⟩ ⟨E⟩ ↔ eqR (.v .non) y h fun b => Q (.v (.bl (neg ^^ b))) h := ⟨fun w => w, fun w => w⟩
theorem x_oTup {ob : List Addr} {neg : Bool} {y : CR} {xs : List CV} : @eqORH ob neg (.v (.tup xs)) y h ⟨Q⟩ ↔ eqR (.v (.tup xs)) y h fun b => Q (.v (.bl (neg ^^ b))) h := ⟨fun w => w, fun w => w⟩
theorem x_iTup {tb : List (Addr × Spec × Nat × List CV)} {neg : Bool} {y : CR} {xs : List CV} : @eqIRH tb neg (.v (.tup xs)) y h ⟨Q⟩ ⟨E⟩ ↔ eqR (.v (.tup xs)) y h fun b => Q (.v (.bl (neg ^^ b))) h := ⟨fun w => w, fun w => w⟩
theorem x_oLst {ob : List Addr} {neg : Bool} {y : CR} {xs : List CV} : @eqORH ob neg (.v (.lst xs)) y h ⟨Q⟩ ↔ eqR (.v (.lst xs)) y h fun b => Q (.v (.bl (neg ^^ b))) h := ⟨fun w => w, fun w => w⟩
theorem x_iLst {tb : List (Addr × Spec × Nat × List CV)} {neg : Bool} {y : CR} {xs : List CV} : @eqIRH tb neg (.v (.lst xs)) y h ⟨Q⟩ ⟨E⟩ ↔ eqR (.v (.lst xs)) y h fun b => Q (.v (.bl (neg ^^ b))) h := ⟨fun w => w, fun w => w⟩
theorem x_oAl {ob : List Addr} {neg : Bool} {y : CR} {xs : List CV} : @eqORH ob neg (.al xs) y h ⟨Q⟩ ↔ eqR (.al xs) y h fun b => Q (.v (.bl (neg ^^ b))) h := ⟨fun w => w, fun w => w⟩
theorem x_iAl {tb : List (Addr × Spec × Nat × List CV)} {neg : Bool} {y : CR} {xs : List CV} : @eqIRH tb neg (.al xs) y h ⟨Q⟩ ⟨E⟩ ↔ eqR (.al xs) y h fun b => Q (.v (.bl (neg ^^ b))) h := ⟨fun w => w, fun w => w⟩
theorem x_oStr {ob : List Addr} {neg : Bool} {y : CR} {s : Str} : @eqORH ob neg (.v (.str s)) y h ⟨Q⟩ ↔ eqR (.v (.str s)) y h fun b => Q (.v (.bl (neg ^^ b))) h := ⟨fun w => w, fun w => w⟩
theorem x_iStr {tb : List (Addr × Spec × Nat × List CV)} {neg : Bool} {y : CR} {s : Str} : @eqIRH tb neg (.v (.str s)) y h ⟨Q⟩ ⟨E⟩ ↔ eqR (.v (.str s)) y h fun b => Q (.v (.bl (neg ^^ b))) h := ⟨fun w => w, fun w => w⟩
theorem x_ixR {x y : CR} : ixR x y h Q ↔ oP (sqOf x h) fun xs => inI y fun i => oP (atI xs i) fun v => Q (.v v) h := ⟨fun w => w, fun w => w⟩
theorem x_slT {xs : List CV} {lo hi : Option Int} : slR (.v (.tup xs)) lo hi h Q ↔ Q (.v (.tup (cutC xs lo hi))) h := ⟨fun w => w, fun w => w⟩
theorem x_slA {xs : List CV} {lo hi : Option Int} : slR (.al xs) lo hi h Q ↔ Q (.al (cutC xs lo hi)) h := ⟨fun w => w, fun w => w⟩
theorem x_slL {xs : List CV} {lo hi : Option Int} : slR (.v (.lst xs)) lo hi h Q ↔ Q (.al (cutC xs lo hi)) h := ⟨fun w => w, fun w => w⟩
theorem x_slR {a : Nat} {lo hi : Option Int} : slR (.v (.ref a)) lo hi h Q ↔ oP (lsOf (.v (.ref a)) h) fun xs => Q (.al (cutC xs lo hi)) h := ⟨fun w => w, fun w => w⟩
theorem x_sl3R {x : CR} {lo hi st : Option Int} : sl3R x lo hi st h Q ↔ oP (lsOf x h) fun xs => st ≠ some 0 ∧ Q (.al (pickC xs lo hi st)) h := ⟨fun w => w, fun w => w⟩
theorem x_partI {i : Int} {kk : Option Int → Prop} : partI (.v (.int i)) kk ↔ kk (some i) := ⟨fun w => w, fun w => w⟩
theorem x_partN {kk : Option Int → Prop} : partI (.v .non) kk ↔ kk none := ⟨fun w => w, fun w => w⟩
theorem x_hdC {x : CV} {xs : List CV} {kk : CV → List CV → Prop} : hdP (x :: xs) kk ↔ kk x xs := ⟨fun w => w, fun w => w⟩
theorem x_srT {xs : List CV} : srR (.v (.tup xs)) h Q ↔ Q (.v (.tup xs.reverse)) h := ⟨fun w => w, fun w => w⟩
theorem x_srA {xs : List CV} : srR (.al xs) h Q ↔ Q (.al xs.reverse) h := ⟨fun w => w, fun w => w⟩
theorem x_srL {xs : List CV} : srR (.v (.lst xs)) h Q ↔ Q (.al xs.reverse) h := ⟨fun w => w, fun w => w⟩
theorem x_srR {a : Nat} : srR (.v (.ref a)) h Q ↔ oP (lsOf (.v (.ref a)) h) fun xs => Q (.al xs.reverse) h := ⟨fun w => w, fun w => w⟩
theorem x_len {x : CR} : bltR .len [x] h Q ↔ oP (sqOf x h) fun xs => Q (.v (.int xs.length)) h := ⟨fun w => w, fun w => w⟩
theorem x_abs {x : CR} : bltR .abs [x] h Q ↔ inI x fun i => Q (.v (.int (if i < 0 then -i else i))) h := ⟨fun w => w, fun w => w⟩
theorem x_min {i j : Int} : bltR .min [.v (.int i), .v (.int j)] h Q ↔ Q (.v (.int (if j < i then j else i))) h := ⟨fun w => w, fun w => w⟩
theorem x_max {i j : Int} : bltR .max [.v (.int i), .v (.int j)] h Q ↔ Q (.v (.int (if j > i then j else i))) h := ⟨fun w => w, fun w => w⟩
theorem x_min1 {x : CR} : bltR .min1 [x] h Q ↔ oP ((lsOf x h).bind intsOf) fun ns => 0 < ns.length ∧ Q (.v (.int (minI ns))) h := ⟨fun w => w, fun w => w⟩
theorem x_max1 {x : CR} : bltR .max1 [x] h Q ↔ oP ((lsOf x h).bind intsOf) fun ns => 0 < ns.length ∧ Q (.v (.int (maxI ns))) h := ⟨fun w => w, fun w => w⟩
theorem x_sum {x : CR} : bltR .sum [x] h Q ↔ oP ((lsOf x h).bind intsOf) fun ns => Q (.v (.int ns.sum)) h := ⟨fun w => w, fun w => w⟩
theorem x_all {x : CR} : bltR .all [x] h Q ↔ oP ((lsOf x h).bind blsOf) fun bs => Q (.v (.bl (bs.all id))) h := ⟨fun w => w, fun w => w⟩
theorem x_any {x : CR} : bltR .any [x] h Q ↔ oP ((lsOf x h).bind blsOf) fun bs => Q (.v (.bl (bs.any id))) h := ⟨fun w => w, fun w => w⟩
theorem x_int {x : CR} : bltR .int [x] h Q ↔ toI x fun i => Q (.v (.int i)) h := ⟨fun w => w, fun w => w⟩
theorem x_bool {x : CR} : bltR .bool [x] h Q ↔ toB x fun i => Q (.v (.bl i)) h := ⟨fun w => w, fun w => w⟩
theorem x_list {x : CR} : bltR .list [x] h Q ↔ oP (sqOf x h) fun xs => Q (.al xs) h := ⟨fun w => w, fun w => w⟩
theorem x_tuple {x : CR} : bltR .tuple [x] h Q ↔ oP (sqOf x h) fun xs => Q (.v (.tup xs)) h := ⟨fun w => w, fun w => w⟩
theorem x_dm {i j : Int} : bltR .divmod [.v (.int i), .v (.int j)] h Q ↔ CDiv i j ∧ Q (.v (.tup [.int (i / j), .int (i % j)])) h := ⟨fun w => w, fun w => w⟩
theorem x_fldR0 {a : Nat} {f : Str} {cs : List Addr} : fldR (.v (.ref a)) f cs h Q ↔ fldC (h[a]?) f cs h Q := ⟨fun w => w, fun w => w⟩
theorem x_fldC {C : Addr} {fs : List (Str × CV)} {f : Str} {cs : List Addr} : @fldCH (some (.ins C fs)) f cs h ⟨Q⟩ ↔ C ∈ cs ∧ oP (fs.lookup f) fun v => Q (.v v) h := ⟨fun w => w, fun w => w⟩
theorem x_stIx0 {a : Nat} {i : Int} {x : CV} {kk : CH → Prop} : stIx (.v (.ref a)) (.v (.int i)) x h kk ↔ stC (h[a]?) a i x h kk := ⟨fun w => w, fun w => w⟩
theorem x_stC {a : Nat} {i : Int} {x : CV} {xs : List CV} {kk : CH → Prop} : @stCH (some (.lst xs)) a i x h ⟨kk⟩ ↔ ixN' xs i fun j => kk (h.set a (.lst (xs.set j x))) := ⟨fun w => w, fun w => w⟩
theorem x_stFld0 {a : Nat} {f : Str} {cs : List Addr} {x : CV} {kk : CH → Prop} : stFld (.v (.ref a)) f cs x h kk ↔ stFC (h[a]?) a f cs x h kk := ⟨fun w => w, fun w => w⟩
theorem x_stFC {a : Nat} {C : Addr} {fs : List (Str × CV)} {f : Str} {cs : List Addr} {x : CV} {kk : CH → Prop} : @stFCH (some (.ins C fs)) a f cs x h ⟨kk⟩ ↔ (C ∈ cs ∧ fs.length < 1000) ∧ kk (h.set a (.ins C (putC f x fs))) := ⟨fun w => w, fun w => w⟩
theorem x_agFld0 {a : Nat} {f : Str} {cs : List Addr} {kk : Nat → Addr → List (Str × CV) → Int → Prop} : agFld (.v (.ref a)) f cs h kk ↔ agC (h[a]?) a f cs kk := ⟨fun w => w, fun w => w⟩
theorem x_agC {a : Nat} {C : Addr} {fs : List (Str × CV)} {f : Str} {cs : List Addr} {kk : Nat → Addr → List (Str × CV) → Int → Prop} : @agCH (some (.ins C fs)) a f cs ⟨kk⟩ ↔ C ∈ cs ∧ fs.length < 1000 ∧ vI (fs.lookup f) fun x => kk a C fs x := ⟨fun w => w, fun w => w⟩
theorem x_mth0 {a : Nat} {tb : List (Addr × Spec × Nat × List CV)} {m : Str} {kk : CV → Spec → Nat → List CV → Prop} : mthR (.v (.ref a)) tb m h kk ↔ mtC (h[a]?) a tb m kk := ⟨fun w => w, fun w => w⟩
theorem x_mtC {a : Nat} {C : Addr} {fs : List (Str × CV)} {tb : List (Addr × Spec × Nat × List CV)} {m : Str} {kk : CV → Spec → Nat → List CV → Prop} : @mtCH (some (.ins C fs)) a tb m ⟨kk⟩ ↔ oP (look tb C) fun t => fs.lookup m = none ∧ kk (.ref a) t.1 t.2.1 t.2.2 := ⟨fun w => w, fun w => w⟩
theorem x_apd0 {a : Nat} {x : CV} : bmR .append (.v (.ref a)) [x] h Q ↔ apC (h[a]?) a x h Q := apC_iff
theorem x_bm_remove {a : Nat} {rs : List CV} : bmR .remove (.v (.ref a)) rs h Q ↔ bmC (h[a]?) .remove a rs h Q := bmC_iff (by simp)
theorem x_bm_pop {a : Nat} {rs : List CV} : bmR .pop (.v (.ref a)) rs h Q ↔ bmC (h[a]?) .pop a rs h Q := bmC_iff (by simp)
theorem x_bm_insert {a : Nat} {rs : List CV} : bmR .insert (.v (.ref a)) rs h Q ↔ bmC (h[a]?) .insert a rs h Q := bmC_iff (by simp)
theorem x_bm_reverse {a : Nat} {rs : List CV} : bmR .reverse (.v (.ref a)) rs h Q ↔ bmC (h[a]?) .reverse a rs h Q := bmC_iff (by simp)
theorem x_bm_clear {a : Nat} {rs : List CV} : bmR .clear (.v (.ref a)) rs h Q ↔ bmC (h[a]?) .clear a rs h Q := bmC_iff (by simp)
theorem x_bmCl {m : Bm} {a : Nat} {rs xs : List CV} : @bmCH (some (.lst xs)) m a rs h ⟨Q⟩ ↔ oP (bmF m xs rs) fun q => Q (.v q.1) (h.set a (.lst q.2)) := ⟨fun w => w, fun w => w⟩
theorem x_cnt {x : CR} {rs : List CV} : bmR .count x rs h Q ↔ oP ((lsOf x h).bind intsOf) fun ns => bmK rs fun k => Q (.v (.int (ns.count k))) h := ⟨fun w => w, fun w => w⟩
theorem x_idxm {x : CR} {rs : List CV} : bmR .index x rs h Q ↔ oP ((lsOf x h).bind intsOf) fun ns => bmK rs fun k => oP (ns.findIdx? (· == k)) fun j => Q (.v (.int j)) h := ⟨fun w => w, fun w => w⟩
theorem x_bmK {i : Int} {kk : Int → Prop} : bmK [.int i] kk ↔ kk i := ⟨fun w => w, fun w => w⟩
theorem x_ext0 {a : Nat} {y : CV} : bmR .extend (.v (.ref a)) [y] h Q ↔ exC (h[a]?) a y h Q := exC_iff
theorem x_exC {a : Nat} {y : CV} {xs : List CV} : @exCH (some (.lst xs)) a y h ⟨Q⟩ ↔ oP (lsM (.v y) h) fun ys => xs.length + ys.length ≤ sizeLine ∧ Q (.v .non) (h.set a (.lst (xs ++ ys))) := ⟨fun w => w, fun w => w⟩
theorem x_apC {a : Nat} {x : CV} {xs : List CV} : @apCH (some (.lst xs)) a x h ⟨Q⟩ ↔ xs.length < sizeLine ∧ Q (.v .non) (h.set a (.lst (xs ++ [x]))) := ⟨fun w => w, fun w => w⟩
theorem bfRm {xs : List CV} {i : Int} : bmF .remove xs [.int i] = (intsOf xs).bind fun ns => (ns.findIdx? (· == i)).map fun j => (.non, xs.eraseIdx j) := rfl
theorem bfP0 {xs : List CV} : bmF .pop xs [] = xs[xs.length - 1]?.map fun y => (y, xs.dropLast) := rfl
theorem bfP1 {xs : List CV} {i : Int} : bmF .pop xs [.int i] = if -(2 ^ 63) ≤ i ∧ i < 2 ^ 63 then (seqIndex? i xs.length).bind fun k => xs[k]?.map fun y => (y, xs.eraseIdx k) else none := rfl
theorem bfIn {xs : List CV} {i : Int} {y : CV} : bmF .insert xs [.int i, y] = if xs.length < sizeLine ∧ 0 ≤ i ∧ i < 2 ^ 63 then some (.non, xs.take i.toNat ++ [y] ++ xs.drop i.toNat) else none := rfl
theorem bfRv {xs : List CV} : bmF .reverse xs [] = some (.non, xs.reverse) := rfl
theorem bfCl {xs : List CV} : bmF .clear xs [] = some (.non, []) := rfl
theorem sqT {xs : List CV} : sqOf (.v (.tup xs)) h = some xs := rfl
theorem sqL {xs : List CV} : sqOf (.v (.lst xs)) h = some xs := rfl
theorem sqA {xs : List CV} : sqOf (.al xs) h = some xs := rfl
theorem lsL {xs : List CV} : lsOf (.v (.lst xs)) h = some xs := rfl
theorem lsA {xs : List CV} : lsOf (.al xs) h = some xs := rfl
theorem lmL {xs : List CV} : lsM (.v (.lst xs)) h = some xs := rfl
theorem lmA {xs : List CV} : lsM (.al xs) h = some xs := rfl
theorem lmR {a : Nat} : lsM (.v (.ref a)) h = lmC (h[a]?) := rfl
theorem lmCl {xs : List CV} : lmC (some (.lst xs)) = some xs := rfl
theorem cvT {xs : List CV} : cnvR true xs = .v (.tup xs) := rfl
theorem cvF {xs : List CV} : cnvR false xs = .al xs := rfl
theorem arN {us zs : List CV} : arC [] us zs = [] := rfl
theorem arP {us zs : List CV} {i : Nat} {r : List Src} : arC (.p i :: r) us zs = us.getD i .non :: arC r us zs := rfl
theorem arK {us zs : List CV} {i : Nat} {r : List Src} : arC (.k i :: r) us zs = zs.getD i .non :: arC r us zs := rfl
theorem arD {us zs : List CV} {v : CV} {r : List Src} : arC (.d v :: r) us zs = v :: arC r us zs := rfl
theorem lkHit {D : Addr} {t : Spec × Nat × List CV} {r : List (Addr × Spec × Nat × List CV)} : look ((D, t) :: r) D = some t := by simp [look]
theorem tpTv {xs : List CV} : tpOf (.v (.tup xs)) = some xs := rfl
theorem tpT {xs : List CV} : (tpOf (.v (.tup xs))).isSome = true := rfl
theorem tpL {xs : List CV} : (tpOf (.v (.lst xs))).isSome = false := rfl
theorem tpA {xs : List CV} : (tpOf (.al xs)).isSome = false := rfl
theorem tpR {a : Nat} : (tpOf (.v (.ref a))).isSome = false := rfl
theorem trN  : truC (.v .non) h = some false := rfl
theorem trB {b : Bool} : truC (.v (.bl b)) h = some b := rfl
theorem trI {i : Int} : truC (.v (.int i)) h = some (i != 0) := rfl
theorem trT {xs : List CV} : truC (.v (.tup xs)) h = some (!xs.isEmpty) := rfl
theorem trL {xs : List CV} : truC (.v (.lst xs)) h = some (!xs.isEmpty) := rfl
theorem trA {xs : List CV} : truC (.al xs) h = some (!xs.isEmpty) := rfl
theorem itN {t : Ty} {cs : List Addr} : isT t cs (.v .non) h = some false := rfl
theorem itB {t : Ty} {cs : List Addr} {b : Bool} : isT t cs (.v (.bl b)) h = some (decide (t = .bool ∨ t = .int)) := rfl
theorem itI {t : Ty} {cs : List Addr} {i : Int} : isT t cs (.v (.int i)) h = some (decide (t = .int)) := rfl
theorem itS {t : Ty} {cs : List Addr} {i : Str} : isT t cs (.v (.str i)) h = some (decide (t = .str)) := rfl
theorem itT {t : Ty} {cs : List Addr} {xs : List CV} : isT t cs (.v (.tup xs)) h = some (decide (t = .tuple)) := rfl
theorem itL {t : Ty} {cs : List Addr} {xs : List CV} : isT t cs (.v (.lst xs)) h = some (decide (t = .list)) := rfl
theorem itA {t : Ty} {cs : List Addr} {xs : List CV} : isT t cs (.al xs) h = some (decide (t = .list)) := rfl
theorem itO {t : Ty} {cs : List Addr} {C : Addr} {ns : List Str} {xs : List CV} : isT t cs (.v (.obj C ns xs)) h = if C ∈ cs then some (decide (t = .own C)) else none := rfl
theorem sqR {a : Nat} : sqOf (.v (.ref a)) h = lsC (h[a]?) := rfl
theorem lsR {a : Nat} : lsOf (.v (.ref a)) h = lsC (h[a]?) := rfl
theorem lsCl {xs : List CV} : lsC (some (.lst xs)) = some xs := rfl
theorem lsCf {xs : List CV} : lsC (some (.fro xs)) = some xs := rfl
theorem trR {a : Nat} : truC (.v (.ref a)) h = trC (h[a]?) := rfl
theorem trCl {xs : List CV} : trC (some (.lst xs)) = some (!xs.isEmpty) := rfl
theorem trCf {xs : List CV} : trC (some (.fro xs)) = some (!xs.isEmpty) := rfl
theorem itR {t : Ty} {cs : List Addr} {a : Nat} : isT t cs (.v (.ref a)) h = itC t cs (h[a]?) := rfl
theorem itCl {t : Ty} {cs : List Addr} {xs : List CV} : itC t cs (some (.lst xs)) = some (decide (t = .list)) := rfl
theorem itCf {t : Ty} {cs : List Addr} {xs : List CV} : itC t cs (some (.fro xs)) = some (decide (t = .list)) := rfl
theorem itCi {t : Ty} {cs : List Addr} {C : Addr} {fs : List (Str × CV)} : itC t cs (some (.ins C fs)) = if C ∈ cs then some (decide (t = .own C)) else none := rfl
end
theorem sz0 : (0 ≤ sizeLine) ↔ True := ⟨fun _ => trivial, fun _ => by decide⟩
theorem sz1 : (1 ≤ sizeLine) ↔ True := ⟨fun _ => trivial, fun _ => by decide⟩
theorem sz2 : (2 ≤ sizeLine) ↔ True := ⟨fun _ => trivial, fun _ => by decide⟩
theorem sz3 : (3 ≤ sizeLine) ↔ True := ⟨fun _ => trivial, fun _ => by decide⟩
theorem sz4 : (4 ≤ sizeLine) ↔ True := ⟨fun _ => trivial, fun _ => by decide⟩
theorem sz5 : (5 ≤ sizeLine) ↔ True := ⟨fun _ => trivial, fun _ => by decide⟩
theorem sz6 : (6 ≤ sizeLine) ↔ True := ⟨fun _ => trivial, fun _ => by decide⟩
theorem sz7 : (7 ≤ sizeLine) ↔ True := ⟨fun _ => trivial, fun _ => by decide⟩
theorem sz8 : (8 ≤ sizeLine) ↔ True := ⟨fun _ => trivial, fun _ => by decide⟩
theorem sz9 : (9 ≤ sizeLine) ↔ True := ⟨fun _ => trivial, fun _ => by decide⟩
theorem sz10 : (10 ≤ sizeLine) ↔ True := ⟨fun _ => trivial, fun _ => by decide⟩
theorem sz11 : (11 ≤ sizeLine) ↔ True := ⟨fun _ => trivial, fun _ => by decide⟩
theorem sz12 : (12 ≤ sizeLine) ↔ True := ⟨fun _ => trivial, fun _ => by decide⟩
theorem sz13 : (13 ≤ sizeLine) ↔ True := ⟨fun _ => trivial, fun _ => by decide⟩
theorem sz14 : (14 ≤ sizeLine) ↔ True := ⟨fun _ => trivial, fun _ => by decide⟩
theorem sz15 : (15 ≤ sizeLine) ↔ True := ⟨fun _ => trivial, fun _ => by decide⟩
theorem sz16 : (16 ≤ sizeLine) ↔ True := ⟨fun _ => trivial, fun _ => by decide⟩
theorem gv0 {x : Option CV} {r : CSt} : gv (x :: r) 0 = x := rfl
theorem gvS {x : Option CV} {r : CSt} {m : Nat} : gv (x :: r) (m + 1) = gv r m := rfl
theorem sv0 {x : Option CV} {r : CSt} {v : CV} : sv (x :: r) 0 v = some v :: r := rfl
theorem svS {x : Option CV} {r : CSt} {v : CV} {m : Nat} : sv (x :: r) (m + 1) v = x :: sv r m v := rfl
theorem uv0 {x : Option CV} {r : CSt} : uv (x :: r) 0 = none :: r := rfl
theorem uvS {x : Option CV} {r : CSt} {m : Nat} : uv (x :: r) (m + 1) = x :: uv r m := rfl
theorem svsN {s : CSt} {xs : List CV} : svs s [] xs = s := rfl
theorem svsC {s : CSt} {i : Nat} {r : List Nat} {x : CV} {xs : List CV} : svs s (i :: r) (x :: xs) = svs (sv s i x) r xs := rfl
theorem uvsN {s : CSt} : uvs s [] = s := rfl
theorem uvsC {s : CSt} {i : Nat} {r : List Nat} : uvs s (i :: r) = uv (uvs s r) i := rfl
theorem wGn {i : Nat} {x : CV} {s : CSt} : wG (.name i) x s = some (sv s i x) := rfl
theorem wGt {ts : CTs} {xs : List CV} {s : CSt} : wG (.tup ts) (.tup xs) s = wGs ts xs s := rfl
theorem wGsN {s : CSt} : wGs .nil [] s = some s := rfl
theorem wGsC {t : CT} {r : CTs} {x : CV} {xs : List CV} {s : CSt} : wGs (.cons t r) (x :: xs) s = (wG t x s).bind (wGs r xs) := rfl
theorem ctNn {i : Nat} : ctN (.name i) = [i] := rfl
theorem ctNt {ts : CTs} : ctN (.tup ts) = ctNs ts := rfl
theorem ctNsN  : ctNs .nil = [] := rfl
theorem ctNsC {t : CT} {r : CTs} : ctNs (.cons t r) = ctN t ++ ctNs r := rfl
theorem st0E {m : Nat} {cs : List CV} : st0 m cs = cs.map some ++ List.replicate (m - cs.length) none := rfl
theorem isNN {h : CH} : isR (.v .non) (.v .non) h = some true := rfl
theorem isBN {h : CH} {b : Bool} : isR (.v (.bl b)) (.v .non) h = some false := rfl
theorem isIN {h : CH} {i : Int} : isR (.v (.int i)) (.v .non) h = some false := rfl
theorem isSN {h : CH} {i : Str} : isR (.v (.str i)) (.v .non) h = some false := rfl
theorem isTN {h : CH} {i : List CV} : isR (.v (.tup i)) (.v .non) h = some false := rfl
theorem isLN {h : CH} {i : List CV} : isR (.v (.lst i)) (.v .non) h = some false := rfl
theorem isON {h : CH} {C : Addr} {ns : List Str} {i : List CV} : isR (.v (.obj C ns i)) (.v .non) h = some false := rfl
theorem isRN {h : CH} {i : Nat} : isR (.v (.ref i)) (.v .non) h = some false := rfl
theorem isAN {h : CH} {i : List CV} : isR (.al i) (.v .non) h = some false := rfl
theorem isBB {h : CH} {a b : Bool} : isR (.v (.bl a)) (.v (.bl b)) h = some (decide (a = b)) := rfl
theorem atI_nat {α : Type} {xs : List α} {i : Nat} {v : α} (e : xs[i]? = some v) : atI xs (i : Int) = some v := by
  have hl := (List.getElem?_eq_some_iff.mp e).1
  unfold atI ixN
  rw [if_pos (by omega), if_pos (by omega)]
  simpa using e
theorem atI_map {β : Type} {f : β → CV} {xs : List β} {i : Int} : atI (xs.map f) i = (atI xs i).map f := by
  unfold atI
  rw [List.length_map]
  cases ixN xs.length i with
  | none => rfl
  | some j => simp
theorem atI_in {α : Type} {xs : List α} {i : Int} (h0 : 0 ≤ i) (h1 : i < xs.length) : ∃ v, atI xs i = some v ∧ v ∈ xs ∧ xs[i.toNat]? = some v := by
  have hl : i.toNat < xs.length := by omega
  refine ⟨xs[i.toNat], ?_, List.getElem_mem hl, List.getElem?_eq_getElem hl⟩
  have := atI_nat (List.getElem?_eq_getElem hl)
  rwa [Int.toNat_of_nonneg h0] at this
theorem at0 {α : Type} {a0 : α} {r : List α} : atI (a0 :: r) 0 = some a0 := by
  have := atI_nat (xs := a0 :: r) (i := 0) (v := a0) rfl
  exact this
theorem ix0 {n : Nat} : ixN (n + 1) 0 = some 0 := by
  unfold ixN; rw [if_pos (by omega), if_pos (by omega)]; rfl
theorem at1 {α : Type} {a0 a1 : α} {r : List α} : atI (a0 :: a1 :: r) 1 = some a1 := by
  have := atI_nat (xs := a0 :: a1 :: r) (i := 1) (v := a1) rfl
  exact this
theorem ix1 {n : Nat} : ixN (n + 2) 1 = some 1 := by
  unfold ixN; rw [if_pos (by omega), if_pos (by omega)]; rfl
theorem at2 {α : Type} {a0 a1 a2 : α} {r : List α} : atI (a0 :: a1 :: a2 :: r) 2 = some a2 := by
  have := atI_nat (xs := a0 :: a1 :: a2 :: r) (i := 2) (v := a2) rfl
  exact this
theorem ix2 {n : Nat} : ixN (n + 3) 2 = some 2 := by
  unfold ixN; rw [if_pos (by omega), if_pos (by omega)]; rfl
theorem at3 {α : Type} {a0 a1 a2 a3 : α} {r : List α} : atI (a0 :: a1 :: a2 :: a3 :: r) 3 = some a3 := by
  have := atI_nat (xs := a0 :: a1 :: a2 :: a3 :: r) (i := 3) (v := a3) rfl
  exact this
theorem ix3 {n : Nat} : ixN (n + 4) 3 = some 3 := by
  unfold ixN; rw [if_pos (by omega), if_pos (by omega)]; rfl
theorem at4 {α : Type} {a0 a1 a2 a3 a4 : α} {r : List α} : atI (a0 :: a1 :: a2 :: a3 :: a4 :: r) 4 = some a4 := by
  have := atI_nat (xs := a0 :: a1 :: a2 :: a3 :: a4 :: r) (i := 4) (v := a4) rfl
  exact this
theorem ix4 {n : Nat} : ixN (n + 5) 4 = some 4 := by
  unfold ixN; rw [if_pos (by omega), if_pos (by omega)]; rfl
theorem at5 {α : Type} {a0 a1 a2 a3 a4 a5 : α} {r : List α} : atI (a0 :: a1 :: a2 :: a3 :: a4 :: a5 :: r) 5 = some a5 := by
  have := atI_nat (xs := a0 :: a1 :: a2 :: a3 :: a4 :: a5 :: r) (i := 5) (v := a5) rfl
  exact this
theorem ix5 {n : Nat} : ixN (n + 6) 5 = some 5 := by
  unfold ixN; rw [if_pos (by omega), if_pos (by omega)]; rfl
theorem at6 {α : Type} {a0 a1 a2 a3 a4 a5 a6 : α} {r : List α} : atI (a0 :: a1 :: a2 :: a3 :: a4 :: a5 :: a6 :: r) 6 = some a6 := by
  have := atI_nat (xs := a0 :: a1 :: a2 :: a3 :: a4 :: a5 :: a6 :: r) (i := 6) (v := a6) rfl
  exact this
theorem ix6 {n : Nat} : ixN (n + 7) 6 = some 6 := by
  unfold ixN; rw [if_pos (by omega), if_pos (by omega)]; rfl
theorem at7 {α : Type} {a0 a1 a2 a3 a4 a5 a6 a7 : α} {r : List α} : atI (a0 :: a1 :: a2 :: a3 :: a4 :: a5 :: a6 :: a7 :: r) 7 = some a7 := by
  have := atI_nat (xs := a0 :: a1 :: a2 :: a3 :: a4 :: a5 :: a6 :: a7 :: r) (i := 7) (v := a7) rfl
  exact this
theorem ix7 {n : Nat} : ixN (n + 8) 7 = some 7 := by
  unfold ixN; rw [if_pos (by omega), if_pos (by omega)]; rfl
theorem cnd_dec {p : Prop} [Decidable p] {A B : Prop} (a : p → A) (b : ¬p → B) : cnd (decide p) A B := by
  by_cases q : p
  · rw [decide_eq_true q]; exact a q
  · rw [decide_eq_false q]; exact b q
theorem cnd_t {b : Bool} {A B : Prop} (e : b = true) (a : A) : cnd b A B := by subst e; exact a
theorem cnd_f {b : Bool} {A B : Prop} (e : b = false) (a : B) : cnd b A B := by subst e; exact a
theorem oP_mk {α : Type} {o : Option α} {x : α} {k : α → Prop} (e : o = some x) (w : k x) : oP o k := by subst e; exact w
theorem len_concat {h : CH} {o : CO} : (h ++ [o])[h.length]? = some o := by simp
theorem set_concat {h : CH} {o o1 : CO} : (h ++ [o]).set h.length o1 = h ++ [o1] := by simp
def notList (v : Value) : Bool := match v with
  | .type s => !(s == ("list" : Str))
  | _ => true
theorem noList_of {K : PySem.W.Frag} (h : K.all (fun p => notList p.2.cls) = true) : NoList K := fun a o e c => by
  have m : (a, o) ∈ K := by
    clear h c
    induction K with
    | nil => cases e
    | cons p r ih =>
      obtain ⟨b, u⟩ := p
      change List.lookup a ((b, u) :: r) = some o at e
      rw [List.lookup_cons] at e
      cases q : a == b with
      | true => rw [q] at e; cases e; rw [eq_of_beq q]; exact List.mem_cons_self
      | false => rw [q] at e; exact List.mem_cons_of_mem _ (ih e)
  have z := List.all_eq_true.mp h (a, o) m
  simp only [notList, c] at z
  simp at z
/-- the addresses of the program's classes -/
structure Cn where
  Room : Addr
  Page : Addr
  View : Addr
  Desk : Addr
  rv : Room ≠ View
theorem lkRV {c : Cn} {t : Spec × Nat × List CV} {r : List (Addr × Spec × Nat × List CV)} : look ((c.Room, t) :: r) c.View = look r c.View := by rw [look, if_neg c.rv]
/-- the law's own promise -/
def spLaw : Spec := fun cs h k _ => ∃ ns : List Int, cs = [.ref 0] ∧ h = [.fro (ns.map .int)] ∧ ns.length ≤ 63 ∧ ∀ h1, k (.v (.bl true)) h1
theorem law_sp : ∀ ns : List Int, ns.length ≤ 63 → spLaw [.ref 0] [.fro (ns.map .int)] (fun r _ => r = .v (.bl true)) (fun _ _ => False) := fun ns hn => ⟨ns, rfl, rfl, hn, fun _ => rfl⟩
end G

/-! ### sides and places, in plain lists -/
namespace G
end G

namespace G
open PySem PySem.Spec PyProof.Rows L2
local macro_rules | `(tactic| walk_at "gs") => `(tactic| try simp -implicitDefEqProofs only [↓h_oP, ↓h_vr, ↓h_vI, ↓h_cnd, ↓h_eqR, ↓h_inR, ↓h_ap, ↓h_wLoop, ↓h_wComp, ↓h_gcd, ↓h_fldC, ↓h_stC, ↓h_stFC, ↓h_agC, ↓h_mtC, ↓h_exC, ↓h_lenC, ↓h_eqOR, ↓h_eqIR, ↓h_eqMR, ↓h_bmC, ↓h_apC, ↓x_skip, ↓x_seq, ↓x_asg, ↓x_asgT, ↓x_asgS, ↓x_asgD, ↓x_setIx, ↓x_setFld, ↓x_aug, ↓x_augFld, ↓x_ret, ↓x_ex, ↓x_ifS, ↓x_for, ↓x_brk, ↓x_bad, ↓x_badE, ↓x_cont, ↓x_ret0, ↓x_con, ↓x_var, ↓x_thaw, ↓x_cool, ↓x_maxD, ↓x_bin, ↓x_neg, ↓x_nt, ↓x_cmp, ↓x_chn, ↓x_an, ↓x_orr, ↓x_ife, ↓x_tup, ↓x_lst, ↓x_ix, ↓x_sl, ↓x_sl3, ↓x_srev, ↓x_fld, ↓x_call, ↓x_callk, ↓x_newk, ↓x_lrng, ↓x_lnrg, ↓x_lenI, ↓x_cmpO, ↓x_cmpM, ↓x_cmpI, ↓x_lenL, ↓x_lenA, ↓x_lenT, ↓x_lenO, ↓x_lenR, ↓x_lenCi, ↓x_lenCl, ↓x_lenCf, ↓x_new, ↓x_mth, ↓x_blt, ↓x_bm, ↓x_isi, ↓x_lc, ↓x_lc2, ↓x_yes, ↓x_val, ↓x_ntB, ↓x_anB, ↓x_orB, ↓x_oN, ↓x_oS, ↓x_nil, ↓x_cons, ↓x_ival, ↓x_rng1, ↓x_rng2, ↓x_rng3, ↓x_enum, ↓x_enumz, ↓x_zip, ↓x_rev, ↓x_oPs, ↓x_vrs, ↓x_vIs, ↓x_inI, ↓x_inB, ↓x_inV, ↓x_toI, ↓x_toIb, ↓x_toB, ↓x_toBb, ↓x_cT, ↓x_cF, ↓x_cN, ↓x_thwA, ↓x_thwV, ↓x_adV, ↓x_adA, ↓x_asN, ↓x_asV, ↓x_asA, ↓x_fldO, ↓x_ixN, ↓x_mthO, ↓x_bII, ↓x_bTI, ↓x_bTT, ↓x_blAA, ↓x_blAL, ↓x_bmA, ↓x_blLA, ↓x_blLL, ↓x_bmL, ↓x_blRA, ↓x_blRL, ↓x_blRR, ↓x_blAR, ↓x_blLR, ↓x_binIp, ↓x_binIs, ↓x_binIm, ↓x_binId, ↓x_binIr, ↓x_binAp, ↓x_binAs, ↓x_binAm, ↓x_binAd, ↓x_binAr, ↓x_binIw, ↓x_lt, ↓x_le, ↓x_gt, ↓x_ge, ↓x_eq, ↓x_ne, ↓x_is, ↓x_isn, ↓x_in, ↓x_nin, ↓x_eqI, ↓x_eqT, ↓x_oInt, ↓x_iInt, ↓x_oBl, ↓x_iBl, ↓x_oNon, ↓x_iNon, ↓x_oTup, ↓x_iTup, ↓x_oLst, ↓x_iLst, ↓x_oAl, ↓x_iAl, ↓x_oStr, ↓x_iStr, ↓x_ixR, ↓x_slT, ↓x_slA, ↓x_slL, ↓x_slR, ↓x_sl3R, ↓x_partI, ↓x_partN, ↓x_hdC, ↓x_srT, ↓x_srA, ↓x_srL, ↓x_srR, ↓x_len, ↓x_abs, ↓x_min, ↓x_max, ↓x_min1, ↓x_max1, ↓x_sum, ↓x_all, ↓x_any, ↓x_int, ↓x_bool, ↓x_list, ↓x_tuple, ↓x_dm, ↓x_fldR0, ↓x_fldC, ↓x_stIx0, ↓x_stC, ↓x_stFld0, ↓x_stFC, ↓x_agFld0, ↓x_agC, ↓x_mth0, ↓x_mtC, ↓x_apd0, ↓x_bm_remove, ↓x_bm_pop, ↓x_bm_insert, ↓x_bm_reverse, ↓x_bm_clear, ↓x_bmCl, ↓x_cnt, ↓x_idxm, ↓x_bmK, ↓x_ext0, ↓x_exC, ↓x_apC, Bool.true_xor, Bool.false_xor, bfRm, bfP0, bfP1, bfIn, bfRv, bfCl, sqT, sqL, sqA, lsL, lsA, lmL, lmA, lmR, lmCl, cvT, cvF, arN, arP, arK, arD, lkHit, tpTv, tpT, tpL, tpA, tpR, trN, trB, trI, trT, trL, trA, itN, itB, itI, itS, itT, itL, itA, itO, sqR, lsR, lsCl, lsCf, trR, trCl, trCf, itR, itCl, itCf, itCi, gv0, gvS, sv0, svS, uv0, uvS, svsN, svsC, uvsN, uvsC, wGn, wGt, wGsN, wGsC, ctNn, ctNt, ctNsN, ctNsC, st0E, isNN, isBN, isIN, isSN, isTN, isLN, isON, isRN, isAN, isBB, at0, ix0, at1, ix1, at2, ix2, at3, ix3, at4, ix4, at5, ix5, at6, ix6, at7, ix7, atI_map, lkRV, sz0, sz1, sz2, sz3, sz4, sz5, sz6, sz7, sz8, sz9, sz10, sz11, sz12, sz13, sz14, sz15, sz16, ↓hid_val, enum_map, zip_map, rev_map, List.map_cons, List.map_nil, List.length_cons, List.length_nil, List.length_map, List.replicate_succ, List.replicate_zero, List.cons_append, List.nil_append, List.append_nil, Option.bind_some, Option.map_some, Option.isSome_some, Option.isSome_none, reduceCtorEq, Nat.reduceAdd, Nat.reduceSub, Nat.reduceMul, ite_true, ite_false, if_true, if_false, Bool.not_true, Bool.not_false, Bool.not_not, decide_true, decide_false, Bool.false_eq_true, and_true, true_and, len_concat, set_concat, List.set_cons_zero, List.set_cons_succ, List.getD_cons_zero, List.getD_cons_succ, List.take_succ_cons, List.take_zero, List.drop_succ_cons, List.drop_zero, List.getElem?_cons_zero, List.getElem?_cons_succ, ints_map, ints_map', bls_map, or_self, false_or, or_false, true_or, or_true, Nat.zero_add, List.isEmpty_cons, List.isEmpty_nil])
local macro_rules | `(tactic| walk_at "gc") => `(tactic| first | refine cnd_t (decide_eq_true (by omega)) ?_ | refine cnd_f (decide_eq_false (by omega)) ?_)
local macro_rules | `(tactic| walk_at "gw") => `(tactic| (walk_at "gs"; repeat (walk_at "gc"; walk_at "gs")))
local macro_rules | `(tactic| walk_at "gh") => `(tactic| try simp -implicitDefEqProofs only [↓h_oP, ↓h_vr, ↓h_vI, ↓h_cnd, ↓h_eqR, ↓h_inR, ↓h_ap, ↓h_wLoop, ↓h_wComp, ↓h_gcd, ↓h_fldC, ↓h_stC, ↓h_stFC, ↓h_agC, ↓h_mtC, ↓h_exC, ↓h_lenC, ↓h_eqOR, ↓h_eqIR, ↓h_eqMR, ↓h_bmC, ↓h_apC, ↓x_skip, ↓x_seq, ↓x_asg, ↓x_asgT, ↓x_asgS, ↓x_asgD, ↓x_setIx, ↓x_setFld, ↓x_aug, ↓x_augFld, ↓x_ret, ↓x_ex, ↓x_ifS, ↓x_for, ↓x_brk, ↓x_bad, ↓x_badE, ↓x_cont, ↓x_ret0, ↓x_con, ↓x_var, ↓x_thaw, ↓x_cool, ↓x_maxD, ↓x_bin, ↓x_neg, ↓x_nt, ↓x_cmp, ↓x_chn, ↓x_an, ↓x_orr, ↓x_ife, ↓x_tup, ↓x_lst, ↓x_ix, ↓x_sl, ↓x_sl3, ↓x_srev, ↓x_fld, ↓x_call, ↓x_callk, ↓x_newk, ↓x_lrng, ↓x_lnrg, ↓x_lenI, ↓x_cmpO, ↓x_cmpM, ↓x_cmpI, ↓x_lenL, ↓x_lenA, ↓x_lenT, ↓x_lenO, ↓x_lenR, ↓x_lenCi, ↓x_lenCl, ↓x_lenCf, ↓x_new, ↓x_mth, ↓x_blt, ↓x_bm, ↓x_isi, ↓x_lc, ↓x_lc2, ↓x_yes, ↓x_val, ↓x_ntB, ↓x_anB, ↓x_orB, ↓x_oN, ↓x_oS, ↓x_nil, ↓x_cons, ↓x_ival, ↓x_rng1, ↓x_rng2, ↓x_rng3, ↓x_enum, ↓x_enumz, ↓x_zip, ↓x_rev, ↓x_oPs, ↓x_vrs, ↓x_vIs, ↓x_inI, ↓x_inB, ↓x_inV, ↓x_toI, ↓x_toIb, ↓x_toB, ↓x_toBb, ↓x_cT, ↓x_cF, ↓x_cN, ↓x_thwA, ↓x_thwV, ↓x_adV, ↓x_adA, ↓x_asN, ↓x_asV, ↓x_asA, ↓x_fldO, ↓x_ixN, ↓x_mthO, ↓x_bII, ↓x_bTI, ↓x_bTT, ↓x_blAA, ↓x_blAL, ↓x_bmA, ↓x_blLA, ↓x_blLL, ↓x_bmL, ↓x_blRA, ↓x_blRL, ↓x_blRR, ↓x_blAR, ↓x_blLR, ↓x_binIp, ↓x_binIs, ↓x_binIm, ↓x_binId, ↓x_binIr, ↓x_binAp, ↓x_binAs, ↓x_binAm, ↓x_binAd, ↓x_binAr, ↓x_binIw, ↓x_lt, ↓x_le, ↓x_gt, ↓x_ge, ↓x_eq, ↓x_ne, ↓x_is, ↓x_isn, ↓x_in, ↓x_nin, ↓x_eqI, ↓x_eqT, ↓x_oInt, ↓x_iInt, ↓x_oBl, ↓x_iBl, ↓x_oNon, ↓x_iNon, ↓x_oTup, ↓x_iTup, ↓x_oLst, ↓x_iLst, ↓x_oAl, ↓x_iAl, ↓x_oStr, ↓x_iStr, ↓x_ixR, ↓x_slT, ↓x_slA, ↓x_slL, ↓x_slR, ↓x_sl3R, ↓x_partI, ↓x_partN, ↓x_hdC, ↓x_srT, ↓x_srA, ↓x_srL, ↓x_srR, ↓x_len, ↓x_abs, ↓x_min, ↓x_max, ↓x_min1, ↓x_max1, ↓x_sum, ↓x_all, ↓x_any, ↓x_int, ↓x_bool, ↓x_list, ↓x_tuple, ↓x_dm, ↓x_fldR0, ↓x_fldC, ↓x_stIx0, ↓x_stC, ↓x_stFld0, ↓x_stFC, ↓x_agFld0, ↓x_agC, ↓x_mth0, ↓x_mtC, ↓x_apd0, ↓x_bm_remove, ↓x_bm_pop, ↓x_bm_insert, ↓x_bm_reverse, ↓x_bm_clear, ↓x_bmCl, ↓x_cnt, ↓x_idxm, ↓x_bmK, ↓x_ext0, ↓x_exC, ↓x_apC, Bool.true_xor, Bool.false_xor, bfRm, bfP0, bfP1, bfIn, bfRv, bfCl, sqT, sqL, sqA, lsL, lsA, lmL, lmA, lmR, lmCl, cvT, cvF, arN, arP, arK, arD, lkHit, tpTv, tpT, tpL, tpA, tpR, trN, trB, trI, trT, trL, trA, itN, itB, itI, itS, itT, itL, itA, itO, sqR, lsR, lsCl, lsCf, trR, trCl, trCf, itR, itCl, itCf, itCi, gv0, gvS, sv0, svS, uv0, uvS, svsN, svsC, uvsN, uvsC, wGn, wGt, wGsN, wGsC, ctNn, ctNt, ctNsN, ctNsC, st0E, isNN, isBN, isIN, isSN, isTN, isLN, isON, isRN, isAN, isBB, at0, ix0, at1, ix1, at2, ix2, at3, ix3, at4, ix4, at5, ix5, at6, ix6, at7, ix7, atI_map, lkRV, sz0, sz1, sz2, sz3, sz4, sz5, sz6, sz7, sz8, sz9, sz10, sz11, sz12, sz13, sz14, sz15, sz16, ↓hid_val, enum_map, zip_map, rev_map, List.map_cons, List.map_nil, List.length_cons, List.length_nil, List.length_map, List.replicate_succ, List.replicate_zero, List.cons_append, List.nil_append, List.append_nil, Option.bind_some, Option.map_some, Option.isSome_some, Option.isSome_none, reduceCtorEq, Nat.reduceAdd, Nat.reduceSub, Nat.reduceMul, ite_true, ite_false, if_true, if_false, Bool.not_true, Bool.not_false, Bool.not_not, decide_true, decide_false, Bool.false_eq_true, and_true, true_and, len_concat, set_concat, List.set_cons_zero, List.set_cons_succ, List.getD_cons_zero, List.getD_cons_succ, List.take_succ_cons, List.take_zero, List.drop_succ_cons, List.drop_zero, List.getElem?_cons_zero, List.getElem?_cons_succ, ints_map, ints_map', bls_map, or_self, false_or, or_false, true_or, or_true, Nat.zero_add, List.isEmpty_cons, List.isEmpty_nil, *])
/-- lengths that may be asked -/
structure Lens (ns : List Int) : Prop where
  len : ns.length ≤ 40
  pos : ∀ n ∈ ns, 0 ≤ n
  top : ∀ n ∈ ns, n ≤ 2 ^ 20
theorem Lens.abs {ns : List Int} (L : Lens ns) : ∀ n ∈ ns, n.natAbs ≤ 2 ^ 20 := fun n hn => by have := L.pos n hn; have := L.top n hn; omega
theorem Lens.left {a b : List Int} (L : Lens (a ++ b)) : Lens a := ⟨by have := L.len; rw [List.length_append] at this; omega, fun n hn => L.pos n (List.mem_append_left _ hn), fun n hn => L.top n (List.mem_append_left _ hn)⟩
theorem Lens.right {a b : List Int} (L : Lens (a ++ b)) : Lens b := ⟨by have := L.len; rw [List.length_append] at this; omega, fun n hn => L.pos n (List.mem_append_right _ hn), fun n hn => L.top n (List.mem_append_right _ hn)⟩
/-- no address, no instance -/
def noRef : CV → Bool
  | .ref _ => false
  | .obj _ _ _ => false
  | _ => true
def sp_is_whole : Spec := fun cs h k _ => ∃ x, cs = [x] ∧ noRef x = true ∧ k (.v (.bl (match x with | .int _ => true | _ => false))) h
/-- is_whole: 0 thing -/
def ir_is_whole : CS := .ret (.an (.isi (.var 0) .int []) (.nt (.val (.isi (.var 0) .bool []))))
theorem w_is_whole : ∀ cs h k E, sp_is_whole cs h k E → cs.length = 1 → clH h → clVs h.length cs → wS ir_is_whole (ret0 h k E) (st0 1 cs) h := by
  rintro _ h k E ⟨x, rfl, hb, hk⟩ _ _ _
  unfold ir_is_whole
  cases x <;> first | exact Bool.noConfusion hb | (walk_at "gs"; exact gc_same hk)

/-! refused places are not here: this is the way of a place -/
end G

/-! ### cells of places, in plain lists -/
namespace G
end G

namespace G
open PySem PySem.Spec PyProof.Rows L2
/-! ### rooms, to be read -/
def rF (many w : Int) (pv : CV) (cp sh : Int) : List (Str × CV) := [("many", .int many), ("width", .int w), ("pages", pv), ("copies", .int cp), ("shuts", .int sh)]
def pgO (c : Cn) (ns : List Int) : CV := .obj c.Page ["kept", "holders"] [.lst (ns.map .int), .int 1]
/-- a page that holds these numbers -/
inductive PgAt (c : Cn) (h : CH) : CV → List Int → Prop
  | o (ns : List Int) : PgAt c h (pgO c ns) ns
  | r (a b : Nat) (hd : Int) (ns : List Int) (ha : h[a]? = some (.ins c.Page [("kept", .ref b), ("holders", .int hd)])) (hb : h[b]? = some (.lst (ns.map .int))) : PgAt c h (.ref a) ns
inductive PgsAt (c : Cn) (h : CH) : List CV → List (List Int) → Prop
  | nil : PgsAt c h [] []
  | cons {x : CV} {ns : List Int} {xs : List CV} {nss : List (List Int)} (a : PgAt c h x ns) (b : PgsAt c h xs nss) : PgsAt c h (x :: xs) (ns :: nss)
/-- numbers in pages -/
def chunk (w : Nat) (ns : List Int) : List (List Int) := (List.range ((ns.length + (w - 1)) / w)).map fun i => (ns.drop (i * w)).take w
structure RmW (c : Cn) (h : CH) (r : Nat) (ns : List Int) (w : Nat) (pv : CV) (cp sh : Int) : Prop where
  w0 : 0 < w
  w1 : w < 2 ^ 29
  sz : ns.length ≤ 2 ^ 20
  at_ : h[r]? = some (.ins c.Room (rF ns.length w pv cp sh))
  pg : ∃ pgs, lsOf (.v pv) h = some pgs ∧ PgsAt c h pgs (chunk w ns)
/-- a room with these numbers -/
def Rm (c : Cn) (h : CH) (r : Nat) (ns : List Int) : Prop := ∃ w pv cp sh, RmW c h r ns w pv cp sh
theorem lk_rF_many {m w : Int} {pv : CV} {cp sh : Int} : List.lookup (Str.ofString "many") (rF m w pv cp sh) = some (.int m) := rfl
theorem lk_rF_width {m w : Int} {pv : CV} {cp sh : Int} : List.lookup (Str.ofString "width") (rF m w pv cp sh) = some (.int w) := rfl
theorem lk_rF_pages {m w : Int} {pv : CV} {cp sh : Int} : List.lookup (Str.ofString "pages") (rF m w pv cp sh) = some (pv) := rfl
theorem lk_rF_copies {m w : Int} {pv : CV} {cp sh : Int} : List.lookup (Str.ofString "copies") (rF m w pv cp sh) = some (.int cp) := rfl
theorem lk_rF_shuts {m w : Int} {pv : CV} {cp sh : Int} : List.lookup (Str.ofString "shuts") (rF m w pv cp sh) = some (.int sh) := rfl
theorem lk_rF_read {m w : Int} {pv : CV} {cp sh : Int} : List.lookup (Str.ofString "read") (rF m w pv cp sh) = none := rfl
theorem lk_rF_write {m w : Int} {pv : CV} {cp sh : Int} : List.lookup (Str.ofString "write") (rF m w pv cp sh) = none := rfl
theorem lk_rF_need {m w : Int} {pv : CV} {cp sh : Int} : List.lookup (Str.ofString "need") (rF m w pv cp sh) = none := rfl
theorem lk_rF_numbers {m w : Int} {pv : CV} {cp sh : Int} : List.lookup (Str.ofString "numbers") (rF m w pv cp sh) = none := rfl
theorem lk_rF_own_page {m w : Int} {pv : CV} {cp sh : Int} : List.lookup (Str.ofString "own_page") (rF m w pv cp sh) = none := rfl
theorem lk_rF_twin {m w : Int} {pv : CV} {cp sh : Int} : List.lookup (Str.ofString "twin") (rF m w pv cp sh) = none := rfl
theorem lk_rF_copied {m w : Int} {pv : CV} {cp sh : Int} : List.lookup (Str.ofString "copied") (rF m w pv cp sh) = none := rfl
theorem lk_rF_is_shut {m w : Int} {pv : CV} {cp sh : Int} : List.lookup (Str.ofString "is_shut") (rF m w pv cp sh) = none := rfl
theorem lk_rF_shared {m w : Int} {pv : CV} {cp sh : Int} : List.lookup (Str.ofString "shared") (rF m w pv cp sh) = none := rfl
theorem lk_pF_kept {a b : CV} : List.lookup (Str.ofString "kept") [((Str.ofString "kept"), a), ((Str.ofString "holders"), b)] = some (a) := rfl
theorem lk_pF_holders {a b : CV} : List.lookup (Str.ofString "holders") [((Str.ofString "kept"), a), ((Str.ofString "holders"), b)] = some (b) := rfl
theorem lk_vF_held {a b d e : CV} : List.lookup (Str.ofString "held") [((Str.ofString "held"), a), ((Str.ofString "lengths"), b), ((Str.ofString "begin"), d), ((Str.ofString "steps"), e)] = some (a) := rfl
theorem lk_vF_lengths {a b d e : CV} : List.lookup (Str.ofString "lengths") [((Str.ofString "held"), a), ((Str.ofString "lengths"), b), ((Str.ofString "begin"), d), ((Str.ofString "steps"), e)] = some (b) := rfl
theorem lk_vF_begin {a b d e : CV} : List.lookup (Str.ofString "begin") [((Str.ofString "held"), a), ((Str.ofString "lengths"), b), ((Str.ofString "begin"), d), ((Str.ofString "steps"), e)] = some (d) := rfl
theorem lk_vF_steps {a b d e : CV} : List.lookup (Str.ofString "steps") [((Str.ofString "held"), a), ((Str.ofString "lengths"), b), ((Str.ofString "begin"), d), ((Str.ofString "steps"), e)] = some (e) := rfl
theorem lk_vF_tell {a b d e : CV} : List.lookup (Str.ofString "tell") [((Str.ofString "held"), a), ((Str.ofString "lengths"), b), ((Str.ofString "begin"), d), ((Str.ofString "steps"), e)] = none := rfl
theorem lk_vF_room {a b d e : CV} : List.lookup (Str.ofString "room") [((Str.ofString "held"), a), ((Str.ofString "lengths"), b), ((Str.ofString "begin"), d), ((Str.ofString "steps"), e)] = none := rfl
theorem lk_vF_sides {a b d e : CV} : List.lookup (Str.ofString "sides") [((Str.ofString "held"), a), ((Str.ofString "lengths"), b), ((Str.ofString "begin"), d), ((Str.ofString "steps"), e)] = none := rfl
theorem lk_vF_first {a b d e : CV} : List.lookup (Str.ofString "first") [((Str.ofString "held"), a), ((Str.ofString "lengths"), b), ((Str.ofString "begin"), d), ((Str.ofString "steps"), e)] = none := rfl
theorem lk_vF_strides {a b d e : CV} : List.lookup (Str.ofString "strides") [((Str.ofString "held"), a), ((Str.ofString "lengths"), b), ((Str.ofString "begin"), d), ((Str.ofString "steps"), e)] = none := rfl
theorem lk_vF_cells {a b d e : CV} : List.lookup (Str.ofString "cells") [((Str.ofString "held"), a), ((Str.ofString "lengths"), b), ((Str.ofString "begin"), d), ((Str.ofString "steps"), e)] = none := rfl
theorem lk_vF_cell {a b d e : CV} : List.lookup (Str.ofString "cell") [((Str.ofString "held"), a), ((Str.ofString "lengths"), b), ((Str.ofString "begin"), d), ((Str.ofString "steps"), e)] = none := rfl
theorem lk_vF_at {a b d e : CV} : List.lookup (Str.ofString "at") [((Str.ofString "held"), a), ((Str.ofString "lengths"), b), ((Str.ofString "begin"), d), ((Str.ofString "steps"), e)] = none := rfl
theorem lk_vF_put {a b d e : CV} : List.lookup (Str.ofString "put") [((Str.ofString "held"), a), ((Str.ofString "lengths"), b), ((Str.ofString "begin"), d), ((Str.ofString "steps"), e)] = none := rfl
theorem lk_vF_numbers {a b d e : CV} : List.lookup (Str.ofString "numbers") [((Str.ofString "held"), a), ((Str.ofString "lengths"), b), ((Str.ofString "begin"), d), ((Str.ofString "steps"), e)] = none := rfl
theorem lk_vF_nested {a b d e : CV} : List.lookup (Str.ofString "nested") [((Str.ofString "held"), a), ((Str.ofString "lengths"), b), ((Str.ofString "begin"), d), ((Str.ofString "steps"), e)] = none := rfl
theorem lk_vF_twin {a b d e : CV} : List.lookup (Str.ofString "twin") [((Str.ofString "held"), a), ((Str.ofString "lengths"), b), ((Str.ofString "begin"), d), ((Str.ofString "steps"), e)] = none := rfl
theorem lk_vF_copy_of {a b d e : CV} : List.lookup (Str.ofString "copy_of") [((Str.ofString "held"), a), ((Str.ofString "lengths"), b), ((Str.ofString "begin"), d), ((Str.ofString "steps"), e)] = none := rfl
theorem lk_pZ_kept {a b : CV} : List.lookup (Str.ofString "kept") (List.zip ["kept", "holders"] [a, b]) = some (a) := rfl
theorem lk_pZ_holders {a b : CV} : List.lookup (Str.ofString "holders") (List.zip ["kept", "holders"] [a, b]) = some (b) := rfl
theorem lk_vZ_held {a b d e : CV} : List.lookup (Str.ofString "held") (List.zip ["held", "lengths", "begin", "steps"] [a, b, d, e]) = some (a) := rfl
theorem lk_vZ_lengths {a b d e : CV} : List.lookup (Str.ofString "lengths") (List.zip ["held", "lengths", "begin", "steps"] [a, b, d, e]) = some (b) := rfl
theorem lk_vZ_begin {a b d e : CV} : List.lookup (Str.ofString "begin") (List.zip ["held", "lengths", "begin", "steps"] [a, b, d, e]) = some (d) := rfl
theorem lk_vZ_steps {a b d e : CV} : List.lookup (Str.ofString "steps") (List.zip ["held", "lengths", "begin", "steps"] [a, b, d, e]) = some (e) := rfl
theorem lk_vZ_tell {a b d e : CV} : List.lookup (Str.ofString "tell") (List.zip ["held", "lengths", "begin", "steps"] [a, b, d, e]) = none := rfl
theorem lk_vZ_room {a b d e : CV} : List.lookup (Str.ofString "room") (List.zip ["held", "lengths", "begin", "steps"] [a, b, d, e]) = none := rfl
theorem lk_vZ_sides {a b d e : CV} : List.lookup (Str.ofString "sides") (List.zip ["held", "lengths", "begin", "steps"] [a, b, d, e]) = none := rfl
theorem lk_vZ_first {a b d e : CV} : List.lookup (Str.ofString "first") (List.zip ["held", "lengths", "begin", "steps"] [a, b, d, e]) = none := rfl
theorem lk_vZ_strides {a b d e : CV} : List.lookup (Str.ofString "strides") (List.zip ["held", "lengths", "begin", "steps"] [a, b, d, e]) = none := rfl
theorem lk_vZ_cells {a b d e : CV} : List.lookup (Str.ofString "cells") (List.zip ["held", "lengths", "begin", "steps"] [a, b, d, e]) = none := rfl
theorem lk_vZ_cell {a b d e : CV} : List.lookup (Str.ofString "cell") (List.zip ["held", "lengths", "begin", "steps"] [a, b, d, e]) = none := rfl
theorem lk_vZ_at {a b d e : CV} : List.lookup (Str.ofString "at") (List.zip ["held", "lengths", "begin", "steps"] [a, b, d, e]) = none := rfl
theorem lk_vZ_put {a b d e : CV} : List.lookup (Str.ofString "put") (List.zip ["held", "lengths", "begin", "steps"] [a, b, d, e]) = none := rfl
theorem lk_vZ_numbers {a b d e : CV} : List.lookup (Str.ofString "numbers") (List.zip ["held", "lengths", "begin", "steps"] [a, b, d, e]) = none := rfl
theorem lk_vZ_nested {a b d e : CV} : List.lookup (Str.ofString "nested") (List.zip ["held", "lengths", "begin", "steps"] [a, b, d, e]) = none := rfl
theorem lk_vZ_twin {a b d e : CV} : List.lookup (Str.ofString "twin") (List.zip ["held", "lengths", "begin", "steps"] [a, b, d, e]) = none := rfl
theorem lk_vZ_copy_of {a b d e : CV} : List.lookup (Str.ofString "copy_of") (List.zip ["held", "lengths", "begin", "steps"] [a, b, d, e]) = none := rfl
theorem pt_p_kept {y : CV} : putC (Str.ofString "kept") y [] = [((Str.ofString "kept"), y)] := rfl
theorem pu_p_kept {x0 x1 y : CV} : putC (Str.ofString "kept") y [((Str.ofString "kept"), x0), ((Str.ofString "holders"), x1)] = [((Str.ofString "kept"), y), ((Str.ofString "holders"), x1)] := rfl
theorem pt_p_holders {x0 y : CV} : putC (Str.ofString "holders") y [((Str.ofString "kept"), x0)] = [((Str.ofString "kept"), x0), ((Str.ofString "holders"), y)] := rfl
theorem pu_p_holders {x0 x1 y : CV} : putC (Str.ofString "holders") y [((Str.ofString "kept"), x0), ((Str.ofString "holders"), x1)] = [((Str.ofString "kept"), x0), ((Str.ofString "holders"), y)] := rfl
theorem pt_r_many {y : CV} : putC (Str.ofString "many") y [] = [((Str.ofString "many"), y)] := rfl
theorem pu_r_many {x0 x1 x2 x3 x4 y : CV} : putC (Str.ofString "many") y [((Str.ofString "many"), x0), ((Str.ofString "width"), x1), ((Str.ofString "pages"), x2), ((Str.ofString "copies"), x3), ((Str.ofString "shuts"), x4)] = [((Str.ofString "many"), y), ((Str.ofString "width"), x1), ((Str.ofString "pages"), x2), ((Str.ofString "copies"), x3), ((Str.ofString "shuts"), x4)] := rfl
theorem pt_r_width {x0 y : CV} : putC (Str.ofString "width") y [((Str.ofString "many"), x0)] = [((Str.ofString "many"), x0), ((Str.ofString "width"), y)] := rfl
theorem pu_r_width {x0 x1 x2 x3 x4 y : CV} : putC (Str.ofString "width") y [((Str.ofString "many"), x0), ((Str.ofString "width"), x1), ((Str.ofString "pages"), x2), ((Str.ofString "copies"), x3), ((Str.ofString "shuts"), x4)] = [((Str.ofString "many"), x0), ((Str.ofString "width"), y), ((Str.ofString "pages"), x2), ((Str.ofString "copies"), x3), ((Str.ofString "shuts"), x4)] := rfl
theorem pt_r_pages {x0 x1 y : CV} : putC (Str.ofString "pages") y [((Str.ofString "many"), x0), ((Str.ofString "width"), x1)] = [((Str.ofString "many"), x0), ((Str.ofString "width"), x1), ((Str.ofString "pages"), y)] := rfl
theorem pu_r_pages {x0 x1 x2 x3 x4 y : CV} : putC (Str.ofString "pages") y [((Str.ofString "many"), x0), ((Str.ofString "width"), x1), ((Str.ofString "pages"), x2), ((Str.ofString "copies"), x3), ((Str.ofString "shuts"), x4)] = [((Str.ofString "many"), x0), ((Str.ofString "width"), x1), ((Str.ofString "pages"), y), ((Str.ofString "copies"), x3), ((Str.ofString "shuts"), x4)] := rfl
theorem pt_r_copies {x0 x1 x2 y : CV} : putC (Str.ofString "copies") y [((Str.ofString "many"), x0), ((Str.ofString "width"), x1), ((Str.ofString "pages"), x2)] = [((Str.ofString "many"), x0), ((Str.ofString "width"), x1), ((Str.ofString "pages"), x2), ((Str.ofString "copies"), y)] := rfl
theorem pu_r_copies {x0 x1 x2 x3 x4 y : CV} : putC (Str.ofString "copies") y [((Str.ofString "many"), x0), ((Str.ofString "width"), x1), ((Str.ofString "pages"), x2), ((Str.ofString "copies"), x3), ((Str.ofString "shuts"), x4)] = [((Str.ofString "many"), x0), ((Str.ofString "width"), x1), ((Str.ofString "pages"), x2), ((Str.ofString "copies"), y), ((Str.ofString "shuts"), x4)] := rfl
theorem pt_r_shuts {x0 x1 x2 x3 y : CV} : putC (Str.ofString "shuts") y [((Str.ofString "many"), x0), ((Str.ofString "width"), x1), ((Str.ofString "pages"), x2), ((Str.ofString "copies"), x3)] = [((Str.ofString "many"), x0), ((Str.ofString "width"), x1), ((Str.ofString "pages"), x2), ((Str.ofString "copies"), x3), ((Str.ofString "shuts"), y)] := rfl
theorem pu_r_shuts {x0 x1 x2 x3 x4 y : CV} : putC (Str.ofString "shuts") y [((Str.ofString "many"), x0), ((Str.ofString "width"), x1), ((Str.ofString "pages"), x2), ((Str.ofString "copies"), x3), ((Str.ofString "shuts"), x4)] = [((Str.ofString "many"), x0), ((Str.ofString "width"), x1), ((Str.ofString "pages"), x2), ((Str.ofString "copies"), x3), ((Str.ofString "shuts"), y)] := rfl
theorem pt_v_held {y : CV} : putC (Str.ofString "held") y [] = [((Str.ofString "held"), y)] := rfl
theorem pu_v_held {x0 x1 x2 x3 y : CV} : putC (Str.ofString "held") y [((Str.ofString "held"), x0), ((Str.ofString "lengths"), x1), ((Str.ofString "begin"), x2), ((Str.ofString "steps"), x3)] = [((Str.ofString "held"), y), ((Str.ofString "lengths"), x1), ((Str.ofString "begin"), x2), ((Str.ofString "steps"), x3)] := rfl
theorem pt_v_lengths {x0 y : CV} : putC (Str.ofString "lengths") y [((Str.ofString "held"), x0)] = [((Str.ofString "held"), x0), ((Str.ofString "lengths"), y)] := rfl
theorem pu_v_lengths {x0 x1 x2 x3 y : CV} : putC (Str.ofString "lengths") y [((Str.ofString "held"), x0), ((Str.ofString "lengths"), x1), ((Str.ofString "begin"), x2), ((Str.ofString "steps"), x3)] = [((Str.ofString "held"), x0), ((Str.ofString "lengths"), y), ((Str.ofString "begin"), x2), ((Str.ofString "steps"), x3)] := rfl
theorem pt_v_begin {x0 x1 y : CV} : putC (Str.ofString "begin") y [((Str.ofString "held"), x0), ((Str.ofString "lengths"), x1)] = [((Str.ofString "held"), x0), ((Str.ofString "lengths"), x1), ((Str.ofString "begin"), y)] := rfl
theorem pu_v_begin {x0 x1 x2 x3 y : CV} : putC (Str.ofString "begin") y [((Str.ofString "held"), x0), ((Str.ofString "lengths"), x1), ((Str.ofString "begin"), x2), ((Str.ofString "steps"), x3)] = [((Str.ofString "held"), x0), ((Str.ofString "lengths"), x1), ((Str.ofString "begin"), y), ((Str.ofString "steps"), x3)] := rfl
theorem pt_v_steps {x0 x1 x2 y : CV} : putC (Str.ofString "steps") y [((Str.ofString "held"), x0), ((Str.ofString "lengths"), x1), ((Str.ofString "begin"), x2)] = [((Str.ofString "held"), x0), ((Str.ofString "lengths"), x1), ((Str.ofString "begin"), x2), ((Str.ofString "steps"), y)] := rfl
theorem pu_v_steps {x0 x1 x2 x3 y : CV} : putC (Str.ofString "steps") y [((Str.ofString "held"), x0), ((Str.ofString "lengths"), x1), ((Str.ofString "begin"), x2), ((Str.ofString "steps"), x3)] = [((Str.ofString "held"), x0), ((Str.ofString "lengths"), x1), ((Str.ofString "begin"), x2), ((Str.ofString "steps"), y)] := rfl
theorem pr_many {m w cp sh i : Int} {pv : CV} : putC (Str.ofString "many") (.int i) (rF m w pv cp sh) = rF i w pv cp sh := rfl
theorem pr_width {m w cp sh i : Int} {pv : CV} : putC (Str.ofString "width") (.int i) (rF m w pv cp sh) = rF m i pv cp sh := rfl
theorem pr_pages {m w cp sh : Int} {pv y : CV} : putC (Str.ofString "pages") y (rF m w pv cp sh) = rF m w y cp sh := rfl
theorem pr_copies {m w cp sh i : Int} {pv : CV} : putC (Str.ofString "copies") (.int i) (rF m w pv cp sh) = rF m w pv i sh := rfl
theorem pr_shuts {m w cp sh i : Int} {pv : CV} : putC (Str.ofString "shuts") (.int i) (rF m w pv cp sh) = rF m w pv cp i := rfl
theorem lk_v1_tell {a : CV} : List.lookup (Str.ofString "tell") [((Str.ofString "held"), a)] = none := rfl
theorem get_mid {A B : CH} {x : CO} : (A ++ [x] ++ B)[A.length]? = some x := by simp
theorem get_mid2 {A B C : CH} {x : CO} : (A ++ [x] ++ B ++ C)[A.length]? = some x := by simp
theorem rF_len {m w : Int} {pv : CV} {cp sh : Int} : ((rF m w pv cp sh).length < 1000) = True := eq_true (by show 5 < 1000; decide)
local macro_rules | `(tactic| walk_at "gs") => `(tactic| try simp -implicitDefEqProofs only [↓h_oP, ↓h_vr, ↓h_vI, ↓h_cnd, ↓h_eqR, ↓h_inR, ↓h_ap, ↓h_wLoop, ↓h_wComp, ↓h_gcd, ↓h_fldC, ↓h_stC, ↓h_stFC, ↓h_agC, ↓h_mtC, ↓h_exC, ↓h_lenC, ↓h_eqOR, ↓h_eqIR, ↓h_eqMR, ↓h_bmC, ↓h_apC, ↓x_skip, ↓x_seq, ↓x_asg, ↓x_asgT, ↓x_asgS, ↓x_asgD, ↓x_setIx, ↓x_setFld, ↓x_aug, ↓x_augFld, ↓x_ret, ↓x_ex, ↓x_ifS, ↓x_for, ↓x_brk, ↓x_bad, ↓x_badE, ↓x_cont, ↓x_ret0, ↓x_con, ↓x_var, ↓x_thaw, ↓x_cool, ↓x_maxD, ↓x_bin, ↓x_neg, ↓x_nt, ↓x_cmp, ↓x_chn, ↓x_an, ↓x_orr, ↓x_ife, ↓x_tup, ↓x_lst, ↓x_ix, ↓x_sl, ↓x_sl3, ↓x_srev, ↓x_fld, ↓x_call, ↓x_callk, ↓x_newk, ↓x_lrng, ↓x_lnrg, ↓x_lenI, ↓x_cmpO, ↓x_cmpM, ↓x_cmpI, ↓x_lenL, ↓x_lenA, ↓x_lenT, ↓x_lenO, ↓x_lenR, ↓x_lenCi, ↓x_lenCl, ↓x_lenCf, ↓x_new, ↓x_mth, ↓x_blt, ↓x_bm, ↓x_isi, ↓x_lc, ↓x_lc2, ↓x_yes, ↓x_val, ↓x_ntB, ↓x_anB, ↓x_orB, ↓x_oN, ↓x_oS, ↓x_nil, ↓x_cons, ↓x_ival, ↓x_rng1, ↓x_rng2, ↓x_rng3, ↓x_enum, ↓x_enumz, ↓x_zip, ↓x_rev, ↓x_oPs, ↓x_vrs, ↓x_vIs, ↓x_inI, ↓x_inB, ↓x_inV, ↓x_toI, ↓x_toIb, ↓x_toB, ↓x_toBb, ↓x_cT, ↓x_cF, ↓x_cN, ↓x_thwA, ↓x_thwV, ↓x_adV, ↓x_adA, ↓x_asN, ↓x_asV, ↓x_asA, ↓x_fldO, ↓x_ixN, ↓x_mthO, ↓x_bII, ↓x_bTI, ↓x_bTT, ↓x_blAA, ↓x_blAL, ↓x_bmA, ↓x_blLA, ↓x_blLL, ↓x_bmL, ↓x_blRA, ↓x_blRL, ↓x_blRR, ↓x_blAR, ↓x_blLR, ↓x_binIp, ↓x_binIs, ↓x_binIm, ↓x_binId, ↓x_binIr, ↓x_binAp, ↓x_binAs, ↓x_binAm, ↓x_binAd, ↓x_binAr, ↓x_binIw, ↓x_lt, ↓x_le, ↓x_gt, ↓x_ge, ↓x_eq, ↓x_ne, ↓x_is, ↓x_isn, ↓x_in, ↓x_nin, ↓x_eqI, ↓x_eqT, ↓x_oInt, ↓x_iInt, ↓x_oBl, ↓x_iBl, ↓x_oNon, ↓x_iNon, ↓x_oTup, ↓x_iTup, ↓x_oLst, ↓x_iLst, ↓x_oAl, ↓x_iAl, ↓x_oStr, ↓x_iStr, ↓x_ixR, ↓x_slT, ↓x_slA, ↓x_slL, ↓x_slR, ↓x_sl3R, ↓x_partI, ↓x_partN, ↓x_hdC, ↓x_srT, ↓x_srA, ↓x_srL, ↓x_srR, ↓x_len, ↓x_abs, ↓x_min, ↓x_max, ↓x_min1, ↓x_max1, ↓x_sum, ↓x_all, ↓x_any, ↓x_int, ↓x_bool, ↓x_list, ↓x_tuple, ↓x_dm, ↓x_fldR0, ↓x_fldC, ↓x_stIx0, ↓x_stC, ↓x_stFld0, ↓x_stFC, ↓x_agFld0, ↓x_agC, ↓x_mth0, ↓x_mtC, ↓x_apd0, ↓x_bm_remove, ↓x_bm_pop, ↓x_bm_insert, ↓x_bm_reverse, ↓x_bm_clear, ↓x_bmCl, ↓x_cnt, ↓x_idxm, ↓x_bmK, ↓x_ext0, ↓x_exC, ↓x_apC, Bool.true_xor, Bool.false_xor, bfRm, bfP0, bfP1, bfIn, bfRv, bfCl, sqT, sqL, sqA, lsL, lsA, lmL, lmA, lmR, lmCl, cvT, cvF, arN, arP, arK, arD, lkHit, tpTv, tpT, tpL, tpA, tpR, trN, trB, trI, trT, trL, trA, itN, itB, itI, itS, itT, itL, itA, itO, sqR, lsR, lsCl, lsCf, trR, trCl, trCf, itR, itCl, itCf, itCi, gv0, gvS, sv0, svS, uv0, uvS, svsN, svsC, uvsN, uvsC, wGn, wGt, wGsN, wGsC, ctNn, ctNt, ctNsN, ctNsC, st0E, isNN, isBN, isIN, isSN, isTN, isLN, isON, isRN, isAN, isBB, at0, ix0, at1, ix1, at2, ix2, at3, ix3, at4, ix4, at5, ix5, at6, ix6, at7, ix7, atI_map, lkRV, sz0, sz1, sz2, sz3, sz4, sz5, sz6, sz7, sz8, sz9, sz10, sz11, sz12, sz13, sz14, sz15, sz16, ↓hid_val, enum_map, zip_map, rev_map, List.map_cons, List.map_nil, List.length_cons, List.length_nil, List.length_map, List.replicate_succ, List.replicate_zero, List.cons_append, List.nil_append, List.append_nil, Option.bind_some, Option.map_some, Option.isSome_some, Option.isSome_none, reduceCtorEq, Nat.reduceAdd, Nat.reduceSub, Nat.reduceMul, ite_true, ite_false, if_true, if_false, Bool.not_true, Bool.not_false, Bool.not_not, decide_true, decide_false, Bool.false_eq_true, and_true, true_and, len_concat, set_concat, List.set_cons_zero, List.set_cons_succ, List.getD_cons_zero, List.getD_cons_succ, List.take_succ_cons, List.take_zero, List.drop_succ_cons, List.drop_zero, List.getElem?_cons_zero, List.getElem?_cons_succ, ints_map, ints_map', bls_map, or_self, false_or, or_false, true_or, or_true, Nat.zero_add, List.isEmpty_cons, List.isEmpty_nil, lk_rF_many, lk_rF_width, lk_rF_pages, lk_rF_copies, lk_rF_shuts, lk_rF_read, lk_rF_write, lk_rF_need, lk_rF_numbers, lk_rF_own_page, lk_rF_twin, lk_rF_copied, lk_rF_is_shut, lk_rF_shared, lk_pF_kept, lk_pF_holders, lk_vF_held, lk_vF_lengths, lk_vF_begin, lk_vF_steps, lk_vF_tell, lk_vF_room, lk_vF_sides, lk_vF_first, lk_vF_strides, lk_vF_cells, lk_vF_cell, lk_vF_at, lk_vF_put, lk_vF_numbers, lk_vF_nested, lk_vF_twin, lk_vF_copy_of, lk_pZ_kept, lk_pZ_holders, lk_vZ_held, lk_vZ_lengths, lk_vZ_begin, lk_vZ_steps, lk_vZ_tell, lk_vZ_room, lk_vZ_sides, lk_vZ_first, lk_vZ_strides, lk_vZ_cells, lk_vZ_cell, lk_vZ_at, lk_vZ_put, lk_vZ_numbers, lk_vZ_nested, lk_vZ_twin, lk_vZ_copy_of, pt_p_kept, pu_p_kept, pt_p_holders, pu_p_holders, pt_r_many, pu_r_many, pt_r_width, pu_r_width, pt_r_pages, pu_r_pages, pt_r_copies, pu_r_copies, pt_r_shuts, pu_r_shuts, pt_v_held, pu_v_held, pt_v_lengths, pu_v_lengths, pt_v_begin, pu_v_begin, pt_v_steps, pu_v_steps, pr_many, pr_width, pr_pages, pr_copies, pr_shuts, rF_len, List.mem_cons, List.mem_singleton, List.not_mem_nil, Nat.reduceLT, lk_v1_tell, List.set_set, List.getElem?_set_self, get_mid, get_mid2, eq_self])
local macro_rules | `(tactic| walk_at "gc") => `(tactic| first | refine cnd_t (decide_eq_true (by omega)) ?_ | refine cnd_f (decide_eq_false (by omega)) ?_)
local macro_rules | `(tactic| walk_at "gw") => `(tactic| (walk_at "gs"; repeat (walk_at "gc"; walk_at "gs")))
local macro_rules | `(tactic| walk_at "gv") => `(tactic| (walk_at "gs"; repeat ((first | refine ap_room ?_ | refine ap_sides ?_ | refine ap_first ?_ | refine ap_strides ?_); walk_at "gs")))
local macro_rules | `(tactic| walk_at "gu") => `(tactic| (walk_at "gv"; repeat (walk_at "gc"; walk_at "gv")))
local macro_rules | `(tactic| walk_at "gh") => `(tactic| try simp -implicitDefEqProofs only [↓h_oP, ↓h_vr, ↓h_vI, ↓h_cnd, ↓h_eqR, ↓h_inR, ↓h_ap, ↓h_wLoop, ↓h_wComp, ↓h_gcd, ↓h_fldC, ↓h_stC, ↓h_stFC, ↓h_agC, ↓h_mtC, ↓h_exC, ↓h_lenC, ↓h_eqOR, ↓h_eqIR, ↓h_eqMR, ↓h_bmC, ↓h_apC, ↓x_skip, ↓x_seq, ↓x_asg, ↓x_asgT, ↓x_asgS, ↓x_asgD, ↓x_setIx, ↓x_setFld, ↓x_aug, ↓x_augFld, ↓x_ret, ↓x_ex, ↓x_ifS, ↓x_for, ↓x_brk, ↓x_bad, ↓x_badE, ↓x_cont, ↓x_ret0, ↓x_con, ↓x_var, ↓x_thaw, ↓x_cool, ↓x_maxD, ↓x_bin, ↓x_neg, ↓x_nt, ↓x_cmp, ↓x_chn, ↓x_an, ↓x_orr, ↓x_ife, ↓x_tup, ↓x_lst, ↓x_ix, ↓x_sl, ↓x_sl3, ↓x_srev, ↓x_fld, ↓x_call, ↓x_callk, ↓x_newk, ↓x_lrng, ↓x_lnrg, ↓x_lenI, ↓x_cmpO, ↓x_cmpM, ↓x_cmpI, ↓x_lenL, ↓x_lenA, ↓x_lenT, ↓x_lenO, ↓x_lenR, ↓x_lenCi, ↓x_lenCl, ↓x_lenCf, ↓x_new, ↓x_mth, ↓x_blt, ↓x_bm, ↓x_isi, ↓x_lc, ↓x_lc2, ↓x_yes, ↓x_val, ↓x_ntB, ↓x_anB, ↓x_orB, ↓x_oN, ↓x_oS, ↓x_nil, ↓x_cons, ↓x_ival, ↓x_rng1, ↓x_rng2, ↓x_rng3, ↓x_enum, ↓x_enumz, ↓x_zip, ↓x_rev, ↓x_oPs, ↓x_vrs, ↓x_vIs, ↓x_inI, ↓x_inB, ↓x_inV, ↓x_toI, ↓x_toIb, ↓x_toB, ↓x_toBb, ↓x_cT, ↓x_cF, ↓x_cN, ↓x_thwA, ↓x_thwV, ↓x_adV, ↓x_adA, ↓x_asN, ↓x_asV, ↓x_asA, ↓x_fldO, ↓x_ixN, ↓x_mthO, ↓x_bII, ↓x_bTI, ↓x_bTT, ↓x_blAA, ↓x_blAL, ↓x_bmA, ↓x_blLA, ↓x_blLL, ↓x_bmL, ↓x_blRA, ↓x_blRL, ↓x_blRR, ↓x_blAR, ↓x_blLR, ↓x_binIp, ↓x_binIs, ↓x_binIm, ↓x_binId, ↓x_binIr, ↓x_binAp, ↓x_binAs, ↓x_binAm, ↓x_binAd, ↓x_binAr, ↓x_binIw, ↓x_lt, ↓x_le, ↓x_gt, ↓x_ge, ↓x_eq, ↓x_ne, ↓x_is, ↓x_isn, ↓x_in, ↓x_nin, ↓x_eqI, ↓x_eqT, ↓x_oInt, ↓x_iInt, ↓x_oBl, ↓x_iBl, ↓x_oNon, ↓x_iNon, ↓x_oTup, ↓x_iTup, ↓x_oLst, ↓x_iLst, ↓x_oAl, ↓x_iAl, ↓x_oStr, ↓x_iStr, ↓x_ixR, ↓x_slT, ↓x_slA, ↓x_slL, ↓x_slR, ↓x_sl3R, ↓x_partI, ↓x_partN, ↓x_hdC, ↓x_srT, ↓x_srA, ↓x_srL, ↓x_srR, ↓x_len, ↓x_abs, ↓x_min, ↓x_max, ↓x_min1, ↓x_max1, ↓x_sum, ↓x_all, ↓x_any, ↓x_int, ↓x_bool, ↓x_list, ↓x_tuple, ↓x_dm, ↓x_fldR0, ↓x_fldC, ↓x_stIx0, ↓x_stC, ↓x_stFld0, ↓x_stFC, ↓x_agFld0, ↓x_agC, ↓x_mth0, ↓x_mtC, ↓x_apd0, ↓x_bm_remove, ↓x_bm_pop, ↓x_bm_insert, ↓x_bm_reverse, ↓x_bm_clear, ↓x_bmCl, ↓x_cnt, ↓x_idxm, ↓x_bmK, ↓x_ext0, ↓x_exC, ↓x_apC, Bool.true_xor, Bool.false_xor, bfRm, bfP0, bfP1, bfIn, bfRv, bfCl, sqT, sqL, sqA, lsL, lsA, lmL, lmA, lmR, lmCl, cvT, cvF, arN, arP, arK, arD, lkHit, tpTv, tpT, tpL, tpA, tpR, trN, trB, trI, trT, trL, trA, itN, itB, itI, itS, itT, itL, itA, itO, sqR, lsR, lsCl, lsCf, trR, trCl, trCf, itR, itCl, itCf, itCi, gv0, gvS, sv0, svS, uv0, uvS, svsN, svsC, uvsN, uvsC, wGn, wGt, wGsN, wGsC, ctNn, ctNt, ctNsN, ctNsC, st0E, isNN, isBN, isIN, isSN, isTN, isLN, isON, isRN, isAN, isBB, at0, ix0, at1, ix1, at2, ix2, at3, ix3, at4, ix4, at5, ix5, at6, ix6, at7, ix7, atI_map, lkRV, sz0, sz1, sz2, sz3, sz4, sz5, sz6, sz7, sz8, sz9, sz10, sz11, sz12, sz13, sz14, sz15, sz16, ↓hid_val, enum_map, zip_map, rev_map, List.map_cons, List.map_nil, List.length_cons, List.length_nil, List.length_map, List.replicate_succ, List.replicate_zero, List.cons_append, List.nil_append, List.append_nil, Option.bind_some, Option.map_some, Option.isSome_some, Option.isSome_none, reduceCtorEq, Nat.reduceAdd, Nat.reduceSub, Nat.reduceMul, ite_true, ite_false, if_true, if_false, Bool.not_true, Bool.not_false, Bool.not_not, decide_true, decide_false, Bool.false_eq_true, and_true, true_and, len_concat, set_concat, List.set_cons_zero, List.set_cons_succ, List.getD_cons_zero, List.getD_cons_succ, List.take_succ_cons, List.take_zero, List.drop_succ_cons, List.drop_zero, List.getElem?_cons_zero, List.getElem?_cons_succ, ints_map, ints_map', bls_map, or_self, false_or, or_false, true_or, or_true, Nat.zero_add, List.isEmpty_cons, List.isEmpty_nil, lk_rF_many, lk_rF_width, lk_rF_pages, lk_rF_copies, lk_rF_shuts, lk_rF_read, lk_rF_write, lk_rF_need, lk_rF_numbers, lk_rF_own_page, lk_rF_twin, lk_rF_copied, lk_rF_is_shut, lk_rF_shared, lk_pF_kept, lk_pF_holders, lk_vF_held, lk_vF_lengths, lk_vF_begin, lk_vF_steps, lk_vF_tell, lk_vF_room, lk_vF_sides, lk_vF_first, lk_vF_strides, lk_vF_cells, lk_vF_cell, lk_vF_at, lk_vF_put, lk_vF_numbers, lk_vF_nested, lk_vF_twin, lk_vF_copy_of, lk_pZ_kept, lk_pZ_holders, lk_vZ_held, lk_vZ_lengths, lk_vZ_begin, lk_vZ_steps, lk_vZ_tell, lk_vZ_room, lk_vZ_sides, lk_vZ_first, lk_vZ_strides, lk_vZ_cells, lk_vZ_cell, lk_vZ_at, lk_vZ_put, lk_vZ_numbers, lk_vZ_nested, lk_vZ_twin, lk_vZ_copy_of, pt_p_kept, pu_p_kept, pt_p_holders, pu_p_holders, pt_r_many, pu_r_many, pt_r_width, pu_r_width, pt_r_pages, pu_r_pages, pt_r_copies, pu_r_copies, pt_r_shuts, pu_r_shuts, pt_v_held, pu_v_held, pt_v_lengths, pu_v_lengths, pt_v_begin, pu_v_begin, pt_v_steps, pu_v_steps, pr_many, pr_width, pr_pages, pr_copies, pr_shuts, rF_len, List.mem_cons, List.mem_singleton, List.not_mem_nil, Nat.reduceLT, lk_v1_tell, List.set_set, List.getElem?_set_self, get_mid, get_mid2, eq_self, *])
theorem PgsAt.get {c : Cn} {h : CH} {xs : List CV} {nss : List (List Int)} (p : PgsAt c h xs nss) {i : Nat} {ns : List Int} (e : nss[i]? = some ns) : ∃ x, xs[i]? = some x ∧ PgAt c h x ns := by
  induction p generalizing i with
  | nil => simp at e
  | cons a b ih =>
    cases i with
    | zero => simp at e; subst e; exact ⟨_, rfl, a⟩
    | succ i => simpa using ih (by simpa using e)
theorem PgsAt.len {c : Cn} {h : CH} {xs : List CV} {nss : List (List Int)} (p : PgsAt c h xs nss) : xs.length = nss.length := by
  induction p with
  | nil => rfl
  | cons a b ih => simp [ih]
theorem chunk_get {w : Nat} {ns : List Int} (w0 : 0 < w) {i : Nat} (hi : i < ns.length) : (chunk w ns)[i / w]? = some ((ns.drop (i / w * w)).take w) ∧ ((ns.drop (i / w * w)).take w)[i % w]? = ns[i]? := by
  have h1 : i / w < (ns.length + (w - 1)) / w := by
    rw [Nat.lt_iff_add_one_le, Nat.le_div_iff_mul_le w0, Nat.add_mul]
    have := Nat.div_mul_le_self i w
    omega
  refine ⟨by unfold chunk; simp [h1], ?_⟩
  rw [List.getElem?_take_of_lt (Nat.mod_lt _ w0), List.getElem?_drop, Nat.div_add_mod' i w]
theorem chunk_flat {w : Nat} (w0 : 0 < w) (ns : List Int) : (chunk w ns).flatten = ns := by
  unfold chunk
  generalize hm : (ns.length + (w - 1)) / w = m
  have key : ∀ m, ((List.range m).map fun i => (ns.drop (i * w)).take w).flatten = ns.take (m * w) := by
    intro m
    induction m with
    | zero => simp
    | succ m ih => rw [List.range_succ, List.map_append, List.flatten_append, ih, Nat.succ_mul, List.take_add]; simp
  rw [key, List.take_of_length_le]
  subst hm
  have h1 := Nat.div_add_mod (ns.length + (w - 1)) w
  have h2 := Nat.mod_lt (ns.length + (w - 1)) w0
  rw [Nat.mul_comm] at h1
  omega
def sp_Room_need (c : Cn) : Spec := fun cs h k _ => ∃ (r : Nat) (i : Int) (m : Int) (w : Int) (pv : CV) (cp sh : Int), cs = [.ref r, .int i] ∧ h[r]? = some (.ins c.Room (rF m w pv cp sh)) ∧ 0 ≤ i ∧ i < m ∧ k (.v .non) h
/-- Room.need: 0 self, 1 cell -/
def ir_Room_need (c : Cn) : CS := .ife (.orr (.nt (.val (.call sp_is_whole 1 [] (.cons (.var 1) (.nil))))) (.nt (.val (.chn .LtE .Lt (.con (.int 0)) (.var 1) (.fld (.var 0) "many" [c.Room]))))) (.bad) (.skip)
theorem w_Room_need (c : Cn) : ∀ cs h k E, sp_Room_need c cs h k E → cs.length = 2 → clH h → clVs h.length cs → wS (ir_Room_need c) (ret0 h k E) (st0 2 cs) h := by
  rintro _ h k E ⟨r, i, m, w, pv, cp, sh, rfl, ha, i0, i1, hk⟩ _ _ _
  unfold ir_Room_need
  walk_at "gh"
  refine ⟨.int i, rfl, rfl, ?_⟩
  walk_at "gw"
  walk_at "gh"
  walk_at "gw"
  exact gc_same hk
theorem gd_self (r : CR) (h : CH) : gdOf r h h := by
  cases r with
  | al xs => trivial
  | v x => cases x <;> first | trivial | rfl
theorem kept_of {c : Cn} {h : CH} {x : CV} {ns : List Int} (p : PgAt c h x ns) {Q : WQ} (hq : ∀ v, lsOf (.v v) h = some (ns.map .int) → Q (.v v) h) : fldR (.v x) (Str.ofString "kept") [c.Page] h Q := by
  cases p with
  | o => exact ⟨List.mem_singleton.mpr rfl, hq _ rfl⟩
  | r a b hd _ ha hb =>
    show fldC (h[a]?) _ _ h Q
    rw [ha]
    exact ⟨List.mem_singleton.mpr rfl, hq _ (by show lsC (h[b]?) = _; rw [hb]; rfl)⟩
def sp_Room_read (c : Cn) : Spec := fun cs h k _ => ∃ (r : Nat) (i : Int) (ns : List Int) (v : Int), cs = [.ref r, .int i] ∧ Rm c h r ns ∧ 0 ≤ i ∧ ns[i.toNat]? = some v ∧ k (.v (.int v)) h
/-- Room.read: 0 self, 1 cell -/
def ir_Room_read (c : Cn) : CS := .seq (.ex (.mth [(c.Room, (sp_Room_need c), 2, [])] "need" (.var 0) (.cons (.var 1) (.nil)))) (.ret (.ix (.fld (.ix (.fld (.var 0) "pages" [c.Room]) (.bin .FloorDiv (.var 1) (.fld (.var 0) "width" [c.Room]))) "kept" [c.Page]) (.bin .Mod (.var 1) (.fld (.var 0) "width" [c.Room]))))
theorem w_Room_read (c : Cn) : ∀ cs h k E, sp_Room_read c cs h k E → cs.length = 2 → clH h → clVs h.length cs → wS (ir_Room_read c) (ret0 h k E) (st0 2 cs) h := by
  rintro _ h k E ⟨r, i, ns, v, rfl, ⟨w, pv, cp, sh, R⟩, i0, hv, hk⟩ _ _ _
  unfold ir_Room_read
  obtain ⟨pgs, hp, P⟩ := R.pg
  have ha := R.at_
  have w0 := R.w0
  have w1 := R.w1
  obtain ⟨j, rfl⟩ := Int.eq_ofNat_of_zero_le i0
  have hj : j < ns.length := (List.getElem?_eq_some_iff.mp hv).1
  obtain ⟨e1, e2⟩ := chunk_get w0 hj
  obtain ⟨x, hx, px⟩ := P.get e1
  have hsq : sqOf (.v pv) h = some pgs := by
    cases pv <;> first | exact hp | (exact (nomatch (show (none : Option (List CV)) = some pgs from hp)))
  walk_at "gh"
  refine ⟨r, j, _, _, _, _, _, rfl, ha, by omega, by omega, ?_⟩
  walk_at "gh"
  refine ⟨⟨by omega, by omega⟩, ?_⟩
  rw [show ((j : Int) / (w : Int)) = ((j / w : Nat) : Int) from rfl]
  refine oP_mk (atI_nat hx) ?_
  refine kept_of px fun kv hkv => ?_
  walk_at "gh"
  refine ⟨by omega, ?_⟩
  have hsq2 : sqOf (.v kv) h = some (((ns.drop (j / w * w)).take w).map .int) := by
    cases kv <;> first | exact hkv | (exact (nomatch (show (none : Option (List CV)) = _ from hkv)))
  refine oP_mk hsq2 ?_
  walk_at "gs"
  rw [show ((j : Int) % (w : Int)) = ((j % w : Nat) : Int) from rfl]
  exact oP_mk (x := CV.int v) (by rw [atI_nat (e2.trans (by simpa using hv))]; rfl) (gc_same hk)
def sp_Room_numbers (c : Cn) : Spec := fun cs h k _ => ∃ (r : Nat) (ns : List Int), cs = [.ref r] ∧ Rm c h r ns ∧ k (.al (ns.map .int)) h
/-- Room.numbers: 0 self, 1 page, 2 number -/
def ir_Room_numbers (c : Cn) : CS := .ret (.lc2 [1, 2] (.name 1) (.val (.fld (.var 0) "pages" [c.Room])) (.yes) (.name 2) (.val (.fld (.var 1) "kept" [c.Page])) (.yes) (.var 2))
theorem w_Room_numbers (c : Cn) : ∀ cs h k E, sp_Room_numbers c cs h k E → cs.length = 1 → clH h → clVs h.length cs → wS (ir_Room_numbers c) (ret0 h k E) (st0 3 cs) h := by
  rintro _ h k E ⟨r, ns, rfl, ⟨w, pv, cp, sh, R⟩, hk⟩ _ _ _
  unfold ir_Room_numbers
  obtain ⟨pgs, hp, P⟩ := R.pg
  have ha := R.at_
  have hsq : sqOf (.v pv) h = some pgs := by
    cases pv <;> first | exact hp | (exact (nomatch (show (none : Option (List CV)) = some pgs from hp)))
  have sz := R.sz
  walk_at "gh"
  clear hsq
  have flat := chunk_flat R.w0 ns
  have ez : pgs = (pgs.zip (chunk w ns)).map (·.1) := by rw [List.map_fst_zip]; rw [P.len]; exact Nat.le_refl _
  have e2 : (pgs.zip (chunk w ns)).map (·.2) = chunk w ns := by rw [List.map_snd_zip]; rw [P.len]; exact Nat.le_refl _
  have efl : (pgs.zip (chunk w ns)).flatMap (fun z => z.2.map CV.int) = ns.map .int := by
    have q := congrArg (fun l => (List.map (List.map CV.int) l).flatten) e2
    simp only [List.map_map] at q
    rw [List.flatMap_def]
    refine q.trans ?_
    rw [← List.map_flatten, flat]
  generalize hz : pgs.zip (chunk w ns) = zs at ez e2 efl
  subst ez
  refine comp_flat (g := fun z => z.2.map CV.int) (gd_self _ _) ?_ ?_
  · rintro a z b acc N ea rfl hN
    have hpz : PgAt c h z.1 z.2 := by
      have hm : z ∈ (zs.map (·.1)).zip (chunk w ns) := by rw [hz, ea]; simp
      obtain ⟨i, hi⟩ := List.mem_iff_getElem?.mp hm
      rw [List.getElem?_zip_eq_some] at hi
      obtain ⟨x, hx, px⟩ := P.get hi.2
      rw [hi.1] at hx; cases hx
      exact px
    walk_at "gs"
    refine kept_of hpz fun kv hkv => ?_
    have hsq2 : sqOf (.v kv) h = some (z.2.map .int) := by
      cases kv <;> first | exact hkv | (exact (nomatch (show (none : Option (List CV)) = _ from hkv)))
    refine oP_mk hsq2 ?_
    walk_at "gs"
    refine comp_pure (g := CV.int) (gd_self _ _) ?_ (by simpa using hN)
    rintro d v q acc' N' ed rfl hN'
    walk_at "gs"
    have hl := congrArg List.length efl
    rw [ea, List.flatMap_append, List.flatMap_cons, ed] at hl
    simp only [List.length_append, List.length_map, List.length_cons] at hl
    refine ⟨?_, by simpa using hN'⟩
    have : sizeLine = 2 ^ 24 := rfl
    simp only [List.nil_append, List.length_append, List.length_map]
    omega
  · walk_at "gs"
    rw [efl]
    exact gc_same hk
/-! ### rooms that are not written -/
theorem cut_range {β : Type} (f : β → CV) (xs : List β) (i w : Nat) : cutC (xs.map f) (some (i : Int)) (some ((i + w : Nat) : Int)) = ((xs.drop i).take w).map f := by
  unfold cutC
  rw [HT.sIx_nat, HT.sIx_nat, List.length_map, ← List.map_drop, ← List.map_take]
  congr 1
  rcases Nat.le_total i xs.length with z | z
  · rw [Nat.min_eq_left z]
    rcases Nat.le_total (i + w) xs.length with y | y
    · rw [Nat.min_eq_left y]; congr 1; omega
    · rw [Nat.min_eq_right y, List.take_of_length_le (by simp), List.take_of_length_le (by simp; omega)]
  · rw [Nat.min_eq_right z, List.drop_eq_nil_of_le z, List.drop_eq_nil_of_le (Nat.le_refl _)]; simp
theorem clO_mono {m n : Nat} (l : m ≤ n) : ∀ o, clO m o → clO n o := by
  intro o ho
  have kV : ∀ xs : List CV, clVs m xs → clVs n xs := by
    intro xs
    induction xs with
    | nil => intro _; trivial
    | cons a xs ih => intro q; exact ⟨clV_mono l _ q.1, ih q.2⟩
  have kF : ∀ xs : List (Str × CV), clF m xs → clF n xs := by
    intro xs
    induction xs with
    | nil => intro _; trivial
    | cons a xs ih => intro q; exact ⟨clV_mono l _ q.1, ih q.2⟩
  cases o with
  | lst xs => exact kV xs ho
  | fro xs => exact kV xs ho
  | ins C fs => exact kF fs ho
theorem clH_app {h : CH} {o : CO} (c : clH h) (co : clO (h.length + 1) o) : clH (h ++ [o]) := fun a u e => by
  rw [List.length_append, List.length_singleton]
  rcases Nat.lt_or_ge a h.length with z | z
  · rw [List.getElem?_append_left z] at e
    exact clO_mono (Nat.le_succ _) _ (c a u e)
  · rw [List.getElem?_append_right z] at e
    rcases Nat.eq_zero_or_pos (a - h.length) with q | q
    · rw [q] at e; simp at e; subst e; exact co
    · rw [List.getElem?_eq_none (by simp; omega)] at e; cases e
theorem lsOf_app {v : CV} {h g : CH} {xs : List CV} (e : lsOf (.v v) h = some xs) : lsOf (.v v) (h ++ g) = some xs := by
  cases v with
  | ref a =>
    have e' : lsC (h[a]?) = some xs := e
    show lsC ((h ++ g)[a]?) = some xs
    cases q : h[a]? with
    | none => rw [q] at e'; cases e'
    | some o =>
      rw [List.getElem?_append_left (List.getElem?_eq_some_iff.mp q).1, q]
      rw [q] at e'; exact e'
  | _ => exact e
theorem get_app {h g : CH} {a : Nat} {o : CO} (e : h[a]? = some o) : (h ++ g)[a]? = some o := by
  rw [List.getElem?_append_left (List.getElem?_eq_some_iff.mp e).1]; exact e
theorem PgAt.app {c : Cn} {h g : CH} {x : CV} {ns : List Int} (p : PgAt c h x ns) : PgAt c (h ++ g) x ns := by
  cases p with
  | o => exact .o _
  | r a b hd _ ha hb => exact .r a b hd _ (get_app ha) (get_app hb)
theorem PgsAt.app {c : Cn} {h g : CH} {xs : List CV} {nss : List (List Int)} (p : PgsAt c h xs nss) : PgsAt c (h ++ g) xs nss := by
  induction p with
  | nil => exact .nil
  | cons a _ ih => exact .cons a.app ih
theorem Rm.app {c : Cn} {h : CH} {r : Nat} {ms : List Int} (R : Rm c h r ms) (g : CH) : Rm c (h ++ g) r ms := by
  obtain ⟨w, pv, cp, sh, R0⟩ := R
  obtain ⟨pgs, e, P⟩ := R0.pg
  exact ⟨w, pv, cp, sh, R0.w0, R0.w1, R0.sz, get_app R0.at_, pgs, lsOf_app e, P.app⟩
theorem ls_ref {h : CH} {a : Nat} {xs : List CV} (e : h[a]? = some (.lst xs)) : lsOf (.v (.ref a)) h = some xs := by
  show (match h[a]? with | some (.lst xs) => some xs | some (.fro xs) => some xs | _ => none) = _
  rw [e]
theorem in_ints {i : Int} {y : CR} {ns : List Int} {h : CH} {k : Bool → Prop} (hy : sqOf y h = some (ns.map .int)) (hk : k (decide (i ∈ ns))) : inR (.v (.int i)) y h k := by
  unfold inR
  rw [k_int.v i, hy, Option.bind_some, k_int.dats]
  refine ⟨⟨k_int.sh (n := 8) (h := h) (by decide) i, k_int.shL (n := 8) (h := h) (by decide) ns⟩, ?_⟩
  have e : ((ns.map PyData.int).any fun z => PyData.eqv z (.int i)) = decide (i ∈ ns) := by
    rw [List.any_map]
    have : ((fun z => PyData.eqv z (.int i)) ∘ PyData.int) = fun z => decide (z = i) := by
      funext z
      exact k_int.eqv (h := h) (n := 8) z i
    rw [this]
    clear hy hk
    induction ns with
    | nil => rfl
    | cons a l ih =>
      rw [List.any_cons, ih]
      by_cases q : a = i
      · simp [q]
      · simp [q, Ne.symm q]
  rw [e]
  exact hk
end G

namespace G
open PySem PySem.Spec PyProof.Rows L2
def pgF (kl : Nat) (hd : Int) : List (Str × CV) := [("kept", .ref kl), ("holders", .int hd)]
theorem lk_q_kept {a : Nat} {b : Int} : List.lookup (Str.ofString "kept") (pgF a b) = some (.ref a) := rfl
theorem lk_q_holders {a : Nat} {b : Int} : List.lookup (Str.ofString "holders") (pgF a b) = some (.int b) := rfl
theorem pr_q_holders {a : Nat} {b i : Int} : putC (Str.ofString "holders") (.int i) (pgF a b) = pgF a i := rfl
theorem pgF_len {a : Nat} {b : Int} : ((pgF a b).length < 1000) = True := eq_true (by show 2 < 1000; decide)
local macro_rules | `(tactic| walk_at "gs") => `(tactic| try simp -implicitDefEqProofs only [↓h_oP, ↓h_vr, ↓h_vI, ↓h_cnd, ↓h_eqR, ↓h_inR, ↓h_ap, ↓h_wLoop, ↓h_wComp, ↓h_gcd, ↓h_fldC, ↓h_stC, ↓h_stFC, ↓h_agC, ↓h_mtC, ↓h_exC, ↓h_lenC, ↓h_eqOR, ↓h_eqIR, ↓h_eqMR, ↓h_bmC, ↓h_apC, ↓x_skip, ↓x_seq, ↓x_asg, ↓x_asgT, ↓x_asgS, ↓x_asgD, ↓x_setIx, ↓x_setFld, ↓x_aug, ↓x_augFld, ↓x_ret, ↓x_ex, ↓x_ifS, ↓x_for, ↓x_brk, ↓x_bad, ↓x_badE, ↓x_cont, ↓x_ret0, ↓x_con, ↓x_var, ↓x_thaw, ↓x_cool, ↓x_maxD, ↓x_bin, ↓x_neg, ↓x_nt, ↓x_cmp, ↓x_chn, ↓x_an, ↓x_orr, ↓x_ife, ↓x_tup, ↓x_lst, ↓x_ix, ↓x_sl, ↓x_sl3, ↓x_srev, ↓x_fld, ↓x_call, ↓x_callk, ↓x_newk, ↓x_lrng, ↓x_lnrg, ↓x_lenI, ↓x_cmpO, ↓x_cmpM, ↓x_cmpI, ↓x_lenL, ↓x_lenA, ↓x_lenT, ↓x_lenO, ↓x_lenR, ↓x_lenCi, ↓x_lenCl, ↓x_lenCf, ↓x_new, ↓x_mth, ↓x_blt, ↓x_bm, ↓x_isi, ↓x_lc, ↓x_lc2, ↓x_yes, ↓x_val, ↓x_ntB, ↓x_anB, ↓x_orB, ↓x_oN, ↓x_oS, ↓x_nil, ↓x_cons, ↓x_ival, ↓x_rng1, ↓x_rng2, ↓x_rng3, ↓x_enum, ↓x_enumz, ↓x_zip, ↓x_rev, ↓x_oPs, ↓x_vrs, ↓x_vIs, ↓x_inI, ↓x_inB, ↓x_inV, ↓x_toI, ↓x_toIb, ↓x_toB, ↓x_toBb, ↓x_cT, ↓x_cF, ↓x_cN, ↓x_thwA, ↓x_thwV, ↓x_adV, ↓x_adA, ↓x_asN, ↓x_asV, ↓x_asA, ↓x_fldO, ↓x_ixN, ↓x_mthO, ↓x_bII, ↓x_bTI, ↓x_bTT, ↓x_blAA, ↓x_blAL, ↓x_bmA, ↓x_blLA, ↓x_blLL, ↓x_bmL, ↓x_blRA, ↓x_blRL, ↓x_blRR, ↓x_blAR, ↓x_blLR, ↓x_binIp, ↓x_binIs, ↓x_binIm, ↓x_binId, ↓x_binIr, ↓x_binAp, ↓x_binAs, ↓x_binAm, ↓x_binAd, ↓x_binAr, ↓x_binIw, ↓x_lt, ↓x_le, ↓x_gt, ↓x_ge, ↓x_eq, ↓x_ne, ↓x_is, ↓x_isn, ↓x_in, ↓x_nin, ↓x_eqI, ↓x_eqT, ↓x_oInt, ↓x_iInt, ↓x_oBl, ↓x_iBl, ↓x_oNon, ↓x_iNon, ↓x_oTup, ↓x_iTup, ↓x_oLst, ↓x_iLst, ↓x_oAl, ↓x_iAl, ↓x_oStr, ↓x_iStr, ↓x_ixR, ↓x_slT, ↓x_slA, ↓x_slL, ↓x_slR, ↓x_sl3R, ↓x_partI, ↓x_partN, ↓x_hdC, ↓x_srT, ↓x_srA, ↓x_srL, ↓x_srR, ↓x_len, ↓x_abs, ↓x_min, ↓x_max, ↓x_min1, ↓x_max1, ↓x_sum, ↓x_all, ↓x_any, ↓x_int, ↓x_bool, ↓x_list, ↓x_tuple, ↓x_dm, ↓x_fldR0, ↓x_fldC, ↓x_stIx0, ↓x_stC, ↓x_stFld0, ↓x_stFC, ↓x_agFld0, ↓x_agC, ↓x_mth0, ↓x_mtC, ↓x_apd0, ↓x_bm_remove, ↓x_bm_pop, ↓x_bm_insert, ↓x_bm_reverse, ↓x_bm_clear, ↓x_bmCl, ↓x_cnt, ↓x_idxm, ↓x_bmK, ↓x_ext0, ↓x_exC, ↓x_apC, Bool.true_xor, Bool.false_xor, bfRm, bfP0, bfP1, bfIn, bfRv, bfCl, sqT, sqL, sqA, lsL, lsA, lmL, lmA, lmR, lmCl, cvT, cvF, arN, arP, arK, arD, lkHit, tpTv, tpT, tpL, tpA, tpR, trN, trB, trI, trT, trL, trA, itN, itB, itI, itS, itT, itL, itA, itO, sqR, lsR, lsCl, lsCf, trR, trCl, trCf, itR, itCl, itCf, itCi, gv0, gvS, sv0, svS, uv0, uvS, svsN, svsC, uvsN, uvsC, wGn, wGt, wGsN, wGsC, ctNn, ctNt, ctNsN, ctNsC, st0E, isNN, isBN, isIN, isSN, isTN, isLN, isON, isRN, isAN, isBB, at0, ix0, at1, ix1, at2, ix2, at3, ix3, at4, ix4, at5, ix5, at6, ix6, at7, ix7, atI_map, lkRV, sz0, sz1, sz2, sz3, sz4, sz5, sz6, sz7, sz8, sz9, sz10, sz11, sz12, sz13, sz14, sz15, sz16, ↓hid_val, enum_map, zip_map, rev_map, List.map_cons, List.map_nil, List.length_cons, List.length_nil, List.length_map, List.replicate_succ, List.replicate_zero, List.cons_append, List.nil_append, List.append_nil, Option.bind_some, Option.map_some, Option.isSome_some, Option.isSome_none, reduceCtorEq, Nat.reduceAdd, Nat.reduceSub, Nat.reduceMul, ite_true, ite_false, if_true, if_false, Bool.not_true, Bool.not_false, Bool.not_not, decide_true, decide_false, Bool.false_eq_true, and_true, true_and, len_concat, set_concat, List.set_cons_zero, List.set_cons_succ, List.getD_cons_zero, List.getD_cons_succ, List.take_succ_cons, List.take_zero, List.drop_succ_cons, List.drop_zero, List.getElem?_cons_zero, List.getElem?_cons_succ, ints_map, ints_map', bls_map, or_self, false_or, or_false, true_or, or_true, Nat.zero_add, List.isEmpty_cons, List.isEmpty_nil, lk_rF_many, lk_rF_width, lk_rF_pages, lk_rF_copies, lk_rF_shuts, lk_rF_read, lk_rF_write, lk_rF_need, lk_rF_numbers, lk_rF_own_page, lk_rF_twin, lk_rF_copied, lk_rF_is_shut, lk_rF_shared, lk_pF_kept, lk_pF_holders, lk_vF_held, lk_vF_lengths, lk_vF_begin, lk_vF_steps, lk_vF_tell, lk_vF_room, lk_vF_sides, lk_vF_first, lk_vF_strides, lk_vF_cells, lk_vF_cell, lk_vF_at, lk_vF_put, lk_vF_numbers, lk_vF_nested, lk_vF_twin, lk_vF_copy_of, lk_pZ_kept, lk_pZ_holders, lk_vZ_held, lk_vZ_lengths, lk_vZ_begin, lk_vZ_steps, lk_vZ_tell, lk_vZ_room, lk_vZ_sides, lk_vZ_first, lk_vZ_strides, lk_vZ_cells, lk_vZ_cell, lk_vZ_at, lk_vZ_put, lk_vZ_numbers, lk_vZ_nested, lk_vZ_twin, lk_vZ_copy_of, pt_p_kept, pu_p_kept, pt_p_holders, pu_p_holders, pt_r_many, pu_r_many, pt_r_width, pu_r_width, pt_r_pages, pu_r_pages, pt_r_copies, pu_r_copies, pt_r_shuts, pu_r_shuts, pt_v_held, pu_v_held, pt_v_lengths, pu_v_lengths, pt_v_begin, pu_v_begin, pt_v_steps, pu_v_steps, pr_many, pr_width, pr_pages, pr_copies, pr_shuts, rF_len, List.mem_cons, List.mem_singleton, List.not_mem_nil, Nat.reduceLT, lk_v1_tell, List.set_set, List.getElem?_set_self, get_mid, get_mid2, eq_self, lk_q_kept, lk_q_holders, pr_q_holders, pgF_len])
local macro_rules | `(tactic| walk_at "gc") => `(tactic| first | refine cnd_t (decide_eq_true (by omega)) ?_ | refine cnd_f (decide_eq_false (by omega)) ?_)
local macro_rules | `(tactic| walk_at "gw") => `(tactic| (walk_at "gs"; repeat (walk_at "gc"; walk_at "gs")))
local macro_rules | `(tactic| walk_at "gv") => `(tactic| (walk_at "gs"; repeat ((first | refine ap_room ?_ | refine ap_sides ?_ | refine ap_first ?_ | refine ap_strides ?_); walk_at "gs")))
local macro_rules | `(tactic| walk_at "gu") => `(tactic| (walk_at "gv"; repeat (walk_at "gc"; walk_at "gv")))
local macro_rules | `(tactic| walk_at "gh") => `(tactic| try simp -implicitDefEqProofs only [↓h_oP, ↓h_vr, ↓h_vI, ↓h_cnd, ↓h_eqR, ↓h_inR, ↓h_ap, ↓h_wLoop, ↓h_wComp, ↓h_gcd, ↓h_fldC, ↓h_stC, ↓h_stFC, ↓h_agC, ↓h_mtC, ↓h_exC, ↓h_lenC, ↓h_eqOR, ↓h_eqIR, ↓h_eqMR, ↓h_bmC, ↓h_apC, ↓x_skip, ↓x_seq, ↓x_asg, ↓x_asgT, ↓x_asgS, ↓x_asgD, ↓x_setIx, ↓x_setFld, ↓x_aug, ↓x_augFld, ↓x_ret, ↓x_ex, ↓x_ifS, ↓x_for, ↓x_brk, ↓x_bad, ↓x_badE, ↓x_cont, ↓x_ret0, ↓x_con, ↓x_var, ↓x_thaw, ↓x_cool, ↓x_maxD, ↓x_bin, ↓x_neg, ↓x_nt, ↓x_cmp, ↓x_chn, ↓x_an, ↓x_orr, ↓x_ife, ↓x_tup, ↓x_lst, ↓x_ix, ↓x_sl, ↓x_sl3, ↓x_srev, ↓x_fld, ↓x_call, ↓x_callk, ↓x_newk, ↓x_lrng, ↓x_lnrg, ↓x_lenI, ↓x_cmpO, ↓x_cmpM, ↓x_cmpI, ↓x_lenL, ↓x_lenA, ↓x_lenT, ↓x_lenO, ↓x_lenR, ↓x_lenCi, ↓x_lenCl, ↓x_lenCf, ↓x_new, ↓x_mth, ↓x_blt, ↓x_bm, ↓x_isi, ↓x_lc, ↓x_lc2, ↓x_yes, ↓x_val, ↓x_ntB, ↓x_anB, ↓x_orB, ↓x_oN, ↓x_oS, ↓x_nil, ↓x_cons, ↓x_ival, ↓x_rng1, ↓x_rng2, ↓x_rng3, ↓x_enum, ↓x_enumz, ↓x_zip, ↓x_rev, ↓x_oPs, ↓x_vrs, ↓x_vIs, ↓x_inI, ↓x_inB, ↓x_inV, ↓x_toI, ↓x_toIb, ↓x_toB, ↓x_toBb, ↓x_cT, ↓x_cF, ↓x_cN, ↓x_thwA, ↓x_thwV, ↓x_adV, ↓x_adA, ↓x_asN, ↓x_asV, ↓x_asA, ↓x_fldO, ↓x_ixN, ↓x_mthO, ↓x_bII, ↓x_bTI, ↓x_bTT, ↓x_blAA, ↓x_blAL, ↓x_bmA, ↓x_blLA, ↓x_blLL, ↓x_bmL, ↓x_blRA, ↓x_blRL, ↓x_blRR, ↓x_blAR, ↓x_blLR, ↓x_binIp, ↓x_binIs, ↓x_binIm, ↓x_binId, ↓x_binIr, ↓x_binAp, ↓x_binAs, ↓x_binAm, ↓x_binAd, ↓x_binAr, ↓x_binIw, ↓x_lt, ↓x_le, ↓x_gt, ↓x_ge, ↓x_eq, ↓x_ne, ↓x_is, ↓x_isn, ↓x_in, ↓x_nin, ↓x_eqI, ↓x_eqT, ↓x_oInt, ↓x_iInt, ↓x_oBl, ↓x_iBl, ↓x_oNon, ↓x_iNon, ↓x_oTup, ↓x_iTup, ↓x_oLst, ↓x_iLst, ↓x_oAl, ↓x_iAl, ↓x_oStr, ↓x_iStr, ↓x_ixR, ↓x_slT, ↓x_slA, ↓x_slL, ↓x_slR, ↓x_sl3R, ↓x_partI, ↓x_partN, ↓x_hdC, ↓x_srT, ↓x_srA, ↓x_srL, ↓x_srR, ↓x_len, ↓x_abs, ↓x_min, ↓x_max, ↓x_min1, ↓x_max1, ↓x_sum, ↓x_all, ↓x_any, ↓x_int, ↓x_bool, ↓x_list, ↓x_tuple, ↓x_dm, ↓x_fldR0, ↓x_fldC, ↓x_stIx0, ↓x_stC, ↓x_stFld0, ↓x_stFC, ↓x_agFld0, ↓x_agC, ↓x_mth0, ↓x_mtC, ↓x_apd0, ↓x_bm_remove, ↓x_bm_pop, ↓x_bm_insert, ↓x_bm_reverse, ↓x_bm_clear, ↓x_bmCl, ↓x_cnt, ↓x_idxm, ↓x_bmK, ↓x_ext0, ↓x_exC, ↓x_apC, Bool.true_xor, Bool.false_xor, bfRm, bfP0, bfP1, bfIn, bfRv, bfCl, sqT, sqL, sqA, lsL, lsA, lmL, lmA, lmR, lmCl, cvT, cvF, arN, arP, arK, arD, lkHit, tpTv, tpT, tpL, tpA, tpR, trN, trB, trI, trT, trL, trA, itN, itB, itI, itS, itT, itL, itA, itO, sqR, lsR, lsCl, lsCf, trR, trCl, trCf, itR, itCl, itCf, itCi, gv0, gvS, sv0, svS, uv0, uvS, svsN, svsC, uvsN, uvsC, wGn, wGt, wGsN, wGsC, ctNn, ctNt, ctNsN, ctNsC, st0E, isNN, isBN, isIN, isSN, isTN, isLN, isON, isRN, isAN, isBB, at0, ix0, at1, ix1, at2, ix2, at3, ix3, at4, ix4, at5, ix5, at6, ix6, at7, ix7, atI_map, lkRV, sz0, sz1, sz2, sz3, sz4, sz5, sz6, sz7, sz8, sz9, sz10, sz11, sz12, sz13, sz14, sz15, sz16, ↓hid_val, enum_map, zip_map, rev_map, List.map_cons, List.map_nil, List.length_cons, List.length_nil, List.length_map, List.replicate_succ, List.replicate_zero, List.cons_append, List.nil_append, List.append_nil, Option.bind_some, Option.map_some, Option.isSome_some, Option.isSome_none, reduceCtorEq, Nat.reduceAdd, Nat.reduceSub, Nat.reduceMul, ite_true, ite_false, if_true, if_false, Bool.not_true, Bool.not_false, Bool.not_not, decide_true, decide_false, Bool.false_eq_true, and_true, true_and, len_concat, set_concat, List.set_cons_zero, List.set_cons_succ, List.getD_cons_zero, List.getD_cons_succ, List.take_succ_cons, List.take_zero, List.drop_succ_cons, List.drop_zero, List.getElem?_cons_zero, List.getElem?_cons_succ, ints_map, ints_map', bls_map, or_self, false_or, or_false, true_or, or_true, Nat.zero_add, List.isEmpty_cons, List.isEmpty_nil, lk_rF_many, lk_rF_width, lk_rF_pages, lk_rF_copies, lk_rF_shuts, lk_rF_read, lk_rF_write, lk_rF_need, lk_rF_numbers, lk_rF_own_page, lk_rF_twin, lk_rF_copied, lk_rF_is_shut, lk_rF_shared, lk_pF_kept, lk_pF_holders, lk_vF_held, lk_vF_lengths, lk_vF_begin, lk_vF_steps, lk_vF_tell, lk_vF_room, lk_vF_sides, lk_vF_first, lk_vF_strides, lk_vF_cells, lk_vF_cell, lk_vF_at, lk_vF_put, lk_vF_numbers, lk_vF_nested, lk_vF_twin, lk_vF_copy_of, lk_pZ_kept, lk_pZ_holders, lk_vZ_held, lk_vZ_lengths, lk_vZ_begin, lk_vZ_steps, lk_vZ_tell, lk_vZ_room, lk_vZ_sides, lk_vZ_first, lk_vZ_strides, lk_vZ_cells, lk_vZ_cell, lk_vZ_at, lk_vZ_put, lk_vZ_numbers, lk_vZ_nested, lk_vZ_twin, lk_vZ_copy_of, pt_p_kept, pu_p_kept, pt_p_holders, pu_p_holders, pt_r_many, pu_r_many, pt_r_width, pu_r_width, pt_r_pages, pu_r_pages, pt_r_copies, pu_r_copies, pt_r_shuts, pu_r_shuts, pt_v_held, pu_v_held, pt_v_lengths, pu_v_lengths, pt_v_begin, pu_v_begin, pt_v_steps, pu_v_steps, pr_many, pr_width, pr_pages, pr_copies, pr_shuts, rF_len, List.mem_cons, List.mem_singleton, List.not_mem_nil, Nat.reduceLT, lk_v1_tell, List.set_set, List.getElem?_set_self, get_mid, get_mid2, eq_self, lk_q_kept, lk_q_holders, pr_q_holders, pgF_len, *])
/-! ### rooms that are written: a world of rooms and pages -/
/-- a room: where it stands, how many cells, how wide a page, its list of pages, the pages, copies, shuts -/
structure RG where
  r : Nat
  m : Nat
  w : Nat
  pl : Nat
  ps : List Nat
  cp : Int
  sh : Int
/-- a page: its list, its numbers, how many hold it -/
structure PG where
  kl : Nat
  ns : List Int
  hd : Int
structure GW where
  rs : List RG
  pg : Nat → PG
def GW.nums (W : GW) (R : RG) : List Int := R.ps.flatMap fun p => (W.pg p).ns
def GW.hold (W : GW) (p : Nat) : Nat := W.rs.countP fun R => decide (p ∈ R.ps)
/-- who owns an address: a room, its list, a page, its list -/
abbrev Own := Nat → Option (Nat × Nat)
structure RmAt (c : Cn) (h : CH) (W : GW) (o : Own) (i : Nat) (R : RG) : Prop where
  at_ : h[R.r]? = some (.ins c.Room (rF R.m R.w (.ref R.pl) R.cp R.sh))
  pl : h[R.pl]? = some (.lst (R.ps.map .ref))
  or : o R.r = some (0, i)
  ol : o R.pl = some (1, i)
  w0 : 0 < R.w
  w1 : R.w < 2 ^ 29
  m1 : R.m ≤ 2 ^ 20
  nd : R.ps.Nodup
  ch : R.ps.map (fun p => (W.pg p).ns) = chunk R.w (W.nums R)
  ml : (W.nums R).length = R.m
structure PgA (c : Cn) (h : CH) (W : GW) (o : Own) (p : Nat) : Prop where
  at_ : h[p]? = some (.ins c.Page (pgF (W.pg p).kl (W.pg p).hd))
  kl : h[(W.pg p).kl]? = some (.lst ((W.pg p).ns.map .int))
  op : o p = some (2, p)
  ok : o (W.pg p).kl = some (3, p)
  hd : (W.pg p).hd = W.hold p
structure Wd (c : Cn) (h : CH) (W : GW) (o : Own) : Prop where
  rm : ∀ (i : Nat) (R : RG), W.rs[i]? = some R → RmAt c h W o i R
  pg : ∀ (i : Nat) (R : RG) (p : Nat), W.rs[i]? = some R → p ∈ R.ps → PgA c h W o p
  lt : ∀ a, o a ≠ none → a < h.length
  few : W.rs.length ≤ 2 ^ 20
theorem Wd.fr {c : Cn} {h h' : CH} {W : GW} {o : Own} (w : Wd c h W o) (l : h.length ≤ h'.length) (e : ∀ a, o a ≠ none → h'[a]? = h[a]?) : Wd c h' W o where
  rm := fun i R hi => by
    have r := w.rm i R hi
    exact { r with at_ := by rw [e _ (by rw [r.or]; simp)]; exact r.at_, pl := by rw [e _ (by rw [r.ol]; simp)]; exact r.pl }
  pg := fun i R p hi hp => by
    have r := w.pg i R p hi hp
    exact { r with at_ := by rw [e _ (by rw [r.op]; simp)]; exact r.at_, kl := by rw [e _ (by rw [r.ok]; simp)]; exact r.kl }
  lt := fun a ha => Nat.lt_of_lt_of_le (w.lt a ha) l
  few := w.few
theorem Wd.app {c : Cn} {h : CH} {W : GW} {o : Own} (w : Wd c h W o) (g : CH) : Wd c (h ++ g) W o :=
  w.fr (by simp) fun a ha => List.getElem?_append_left (w.lt a ha)
theorem Wd.set {c : Cn} {h : CH} {W : GW} {o : Own} (w : Wd c h W o) {a : Nat} (x : CO) (ha : o a = none) : Wd c (h.set a x) W o :=
  w.fr (by simp) fun b hb => List.getElem?_set_ne fun e => hb (by rw [← e]; exact ha)
theorem pgs_at {c : Cn} {h : CH} {W : GW} {o : Own} : ∀ (ps : List Nat), (∀ p ∈ ps, PgA c h W o p) → PgsAt c h (ps.map .ref) (ps.map fun p => (W.pg p).ns)
  | [], _ => .nil
  | p :: ps, H => .cons (.r p _ _ _ (H p List.mem_cons_self).at_ (H p List.mem_cons_self).kl) (pgs_at ps fun q hq => H q (List.mem_cons_of_mem _ hq))
/-- a room of the world can be read -/
theorem Wd.rd {c : Cn} {h : CH} {W : GW} {o : Own} (w : Wd c h W o) {i : Nat} {R : RG} (hi : W.rs[i]? = some R) : RmW c h R.r (W.nums R) R.w (.ref R.pl) R.cp R.sh := by
  have r := w.rm i R hi
  refine ⟨r.w0, r.w1, by rw [r.ml]; exact r.m1, by rw [r.ml]; exact r.at_, R.ps.map .ref, ?_, ?_⟩
  · show (match h[R.pl]? with | some (.lst xs) => some xs | some (.fro xs) => some xs | _ => none) = _
    rw [r.pl]
  · rw [← r.ch]
    exact pgs_at _ fun p hp => w.pg i R p hi hp
theorem Wd.rm_ {c : Cn} {h : CH} {W : GW} {o : Own} (w : Wd c h W o) {i : Nat} {R : RG} (hi : W.rs[i]? = some R) : Rm c h R.r (W.nums R) := ⟨_, _, _, _, w.rd hi⟩
def sp_Page_init (c : Cn) : Spec := fun cs h k _ => ∃ (a b : Nat), cs = [.ref a, .ref b] ∧ h[a]? = some (.ins c.Page []) ∧ k (.v .non) (h.set a (.ins c.Page (pgF b 1)))
/-- Page.__init__: 0 self, 1 kept -/
def ir_Page_init (c : Cn) : CS := .seq (.setFld (.var 0) "kept" [c.Page] (.thaw (.var 1))) (.setFld (.var 0) "holders" [c.Page] (.con (.int 1)))
theorem w_Page_init (c : Cn) : ∀ cs h k E, sp_Page_init c cs h k E → cs.length = 2 → clH h → clVs h.length cs → wS (ir_Page_init c) (ret0 h k E) (st0 2 cs) h := by
  rintro _ h k E ⟨a, b, rfl, ha, hk⟩ _ _ _
  unfold ir_Page_init
  have lt := (List.getElem?_eq_some_iff.mp ha).1
  have hs : ∀ o, (h.set a o)[a]? = some o := fun o => List.getElem?_set_self lt
  have ss : ∀ o o', (h.set a o).set a o' = h.set a o' := fun o o' => List.set_set ..
  walk_at "gh"
  exact gc_same hk
theorem ixN_at {n i : Nat} (h : i < n) : ixN n (i : Int) = some i := by
  unfold ixN
  have a : (0 : Int) ≤ i := by omega
  have b : (i : Int) < n := by omega
  simp [a, b, h]
/-- a page of one's own -/
def ownH (c : Cn) (h : CH) (R : RG) (G : PG) (p at_ : Nat) : CH :=
  ((h.set p (.ins c.Page (pgF G.kl (G.hd - 1))) ++ [CO.lst (G.ns.map .int), CO.ins c.Page (pgF h.length 1)]).set R.pl (.lst ((R.ps.set at_ (h.length + 1)).map .ref))).set R.r (.ins c.Room (rF R.m R.w (.ref R.pl) (R.cp + 1) R.sh))
def sp_Room_own_page (c : Cn) : Spec := fun cs h k _ => ∃ (W : GW) (o : Own) (i : Nat) (R : RG) (at_ p : Nat), cs = [.ref R.r, .int at_] ∧ Wd c h W o ∧ W.rs[i]? = some R ∧ R.ps[at_]? = some p ∧
  if 1 < (W.pg p).hd then k (.v (.ref (h.length + 1))) (ownH c h R (W.pg p) p at_) else k (.v (.ref p)) h
/-- Room.own_page: 0 self, 1 at, 2 page -/
def ir_Room_own_page (c : Cn) : CS := .seq (.asg 2 (.ix (.fld (.var 0) "pages" [c.Room]) (.var 1))) (.seq (.ife (.val (.cmp .Gt (.fld (.var 2) "holders" [c.Page]) (.con (.int 1)))) (.seq (.augFld .Sub (.var 2) "holders" [c.Page] (.con (.int 1))) (.seq (.asg 2 (.new c.Page (sp_Page_init c) 2 [] (.cons (.thaw (.blt .list (.cons (.fld (.var 2) "kept" [c.Page]) (.nil)))) (.nil)))) (.seq (.setIx (.fld (.var 0) "pages" [c.Room]) (.var 1) (.var 2)) (.augFld .Add (.var 0) "copies" [c.Room] (.con (.int 1)))))) (.skip)) (.ret (.var 2)))
theorem w_Room_own_page (c : Cn) : ∀ cs h k E, sp_Room_own_page c cs h k E → cs.length = 2 → clH h → clVs h.length cs → wS (ir_Room_own_page c) (ret0 h k E) (st0 3 cs) h := by
  rintro _ h k E ⟨W, o, i, R, at_, p, rfl, w, hi, hp, hk⟩ _ _ _
  unfold ir_Room_own_page
  have r := w.rm i R hi
  have g := w.pg i R p hi (List.mem_of_getElem? hp)
  have hR := r.at_
  have hP := g.at_
  have hl := r.pl
  have hkl := g.kl
  walk_at "gh"
  refine oP_mk (x := .ref p) (by rw [atI_nat hp]; rfl) ?_
  walk_at "gh"
  have ltp := w.lt p (by rw [g.op]; simp)
  have ltl := w.lt R.pl (by rw [r.ol]; simp)
  have ltr := w.lt R.r (by rw [r.or]; simp)
  have n1 : p ≠ (W.pg p).kl := fun e => by have := g.op; rw [e, g.ok] at this; cases this
  have n2 : p ≠ R.r := fun e => by have := g.op; rw [e, r.or] at this; cases this
  have n3 : p ≠ R.pl := fun e => by have := g.op; rw [e, r.ol] at this; cases this
  have n4 : R.pl ≠ R.r := fun e => by have := r.ol; rw [e, r.or] at this; cases this
  refine cnd_dec (fun z => ?_) (fun z => ?_)
  · rw [if_pos z] at hk
    unfold ownH at hk
    have h1 : ∀ x, (h.set p x)[p]? = some x := fun x => List.getElem?_set_self ltp
    have h2 : ∀ x, (h.set p x)[(W.pg p).kl]? = some (.lst ((W.pg p).ns.map .int)) := fun x => by rw [List.getElem?_set_ne n1]; exact g.kl
    walk_at "gh"
    refine ⟨_, _, rfl, len_concat, ?_⟩
    rw [set_concat]
    have e3 : (h.set p (CO.ins c.Page (pgF (W.pg p).kl ((W.pg p).hd - 1)))).length = h.length := by simp
    have h3 : (h.set p (CO.ins c.Page (pgF (W.pg p).kl ((W.pg p).hd - 1))))[R.r]? = some (.ins c.Room (rF R.m R.w (.ref R.pl) R.cp R.sh)) := by rw [List.getElem?_set_ne n2]; exact hR
    have h4 : (h.set p (CO.ins c.Page (pgF (W.pg p).kl ((W.pg p).hd - 1))))[R.pl]? = some (.lst (R.ps.map .ref)) := by rw [List.getElem?_set_ne n3]; exact hl
    have lat : at_ < R.ps.length := (List.getElem?_eq_some_iff.mp hp).1
    clear h1 h2 hR hP hl hkl
    generalize hh1 : h.set p (CO.ins c.Page (pgF (W.pg p).kl ((W.pg p).hd - 1))) = h1 at hk e3 h3 h4 ⊢
    obtain ⟨h2, hh2⟩ : ∃ h2, h2 = h1 ++ [CO.lst ((W.pg p).ns.map .int), CO.ins c.Page (pgF h.length 1)] := ⟨_, rfl⟩
    have e2 : h1 ++ [CO.lst (List.map CV.int (W.pg p).ns)] ++ [CO.ins c.Page (pgF h1.length 1)] = h2 := by rw [hh2, e3]; simp
    have el : (h1 ++ [CO.lst (List.map CV.int (W.pg p).ns)]).length = h.length + 1 := by simp; omega
    rw [e2, el]
    rw [← hh2] at hk
    have h3' : h2[R.r]? = some (.ins c.Room (rF R.m R.w (.ref R.pl) R.cp R.sh)) := by rw [hh2, List.getElem?_append_left (by omega)]; exact h3
    have h4' : h2[R.pl]? = some (.lst (R.ps.map .ref)) := by rw [hh2, List.getElem?_append_left (by omega)]; exact h4
    have h5 : ∀ x, (h2.set R.pl x)[R.r]? = some (.ins c.Room (rF R.m R.w (.ref R.pl) R.cp R.sh)) := fun x => by rw [List.getElem?_set_ne n4]; exact h3'
    clear h3 h4 hh2 e2 el
    walk_at "gh"
    refine oP_mk (ixN_at lat) ?_
    walk_at "gh"
    trace_state
    refine gc_same ?_
    simpa [List.map_set] using hk
  · rw [if_neg z] at hk
    walk_at "gh"
    exact gc_same hk
end G

namespace G
open PySem PySem.Spec PyProof.Rows L2
local macro_rules | `(tactic| walk_at "gs") => `(tactic| try simp -implicitDefEqProofs only [↓h_oP, ↓h_vr, ↓h_vI, ↓h_cnd, ↓h_eqR, ↓h_inR, ↓h_ap, ↓h_wLoop, ↓h_wComp, ↓h_gcd, ↓h_fldC, ↓h_stC, ↓h_stFC, ↓h_agC, ↓h_mtC, ↓h_exC, ↓h_lenC, ↓h_eqOR, ↓h_eqIR, ↓h_eqMR, ↓h_bmC, ↓h_apC, ↓x_skip, ↓x_seq, ↓x_asg, ↓x_asgT, ↓x_asgS, ↓x_asgD, ↓x_setIx, ↓x_setFld, ↓x_aug, ↓x_augFld, ↓x_ret, ↓x_ex, ↓x_ifS, ↓x_for, ↓x_brk, ↓x_bad, ↓x_badE, ↓x_cont, ↓x_ret0, ↓x_con, ↓x_var, ↓x_thaw, ↓x_cool, ↓x_maxD, ↓x_bin, ↓x_neg, ↓x_nt, ↓x_cmp, ↓x_chn, ↓x_an, ↓x_orr, ↓x_ife, ↓x_tup, ↓x_lst, ↓x_ix, ↓x_sl, ↓x_sl3, ↓x_srev, ↓x_fld, ↓x_call, ↓x_callk, ↓x_newk, ↓x_lrng, ↓x_lnrg, ↓x_lenI, ↓x_cmpO, ↓x_cmpM, ↓x_cmpI, ↓x_lenL, ↓x_lenA, ↓x_lenT, ↓x_lenO, ↓x_lenR, ↓x_lenCi, ↓x_lenCl, ↓x_lenCf, ↓x_new, ↓x_mth, ↓x_blt, ↓x_bm, ↓x_isi, ↓x_lc, ↓x_lc2, ↓x_yes, ↓x_val, ↓x_ntB, ↓x_anB, ↓x_orB, ↓x_oN, ↓x_oS, ↓x_nil, ↓x_cons, ↓x_ival, ↓x_rng1, ↓x_rng2, ↓x_rng3, ↓x_enum, ↓x_enumz, ↓x_zip, ↓x_rev, ↓x_oPs, ↓x_vrs, ↓x_vIs, ↓x_inI, ↓x_inB, ↓x_inV, ↓x_toI, ↓x_toIb, ↓x_toB, ↓x_toBb, ↓x_cT, ↓x_cF, ↓x_cN, ↓x_thwA, ↓x_thwV, ↓x_adV, ↓x_adA, ↓x_asN, ↓x_asV, ↓x_asA, ↓x_fldO, ↓x_ixN, ↓x_mthO, ↓x_bII, ↓x_bTI, ↓x_bTT, ↓x_blAA, ↓x_blAL, ↓x_bmA, ↓x_blLA, ↓x_blLL, ↓x_bmL, ↓x_blRA, ↓x_blRL, ↓x_blRR, ↓x_blAR, ↓x_blLR, ↓x_binIp, ↓x_binIs, ↓x_binIm, ↓x_binId, ↓x_binIr, ↓x_binAp, ↓x_binAs, ↓x_binAm, ↓x_binAd, ↓x_binAr, ↓x_binIw, ↓x_lt, ↓x_le, ↓x_gt, ↓x_ge, ↓x_eq, ↓x_ne, ↓x_is, ↓x_isn, ↓x_in, ↓x_nin, ↓x_eqI, ↓x_eqT, ↓x_oInt, ↓x_iInt, ↓x_oBl, ↓x_iBl, ↓x_oNon, ↓x_iNon, ↓x_oTup, ↓x_iTup, ↓x_oLst, ↓x_iLst, ↓x_oAl, ↓x_iAl, ↓x_oStr, ↓x_iStr, ↓x_ixR, ↓x_slT, ↓x_slA, ↓x_slL, ↓x_slR, ↓x_sl3R, ↓x_partI, ↓x_partN, ↓x_hdC, ↓x_srT, ↓x_srA, ↓x_srL, ↓x_srR, ↓x_len, ↓x_abs, ↓x_min, ↓x_max, ↓x_min1, ↓x_max1, ↓x_sum, ↓x_all, ↓x_any, ↓x_int, ↓x_bool, ↓x_list, ↓x_tuple, ↓x_dm, ↓x_fldR0, ↓x_fldC, ↓x_stIx0, ↓x_stC, ↓x_stFld0, ↓x_stFC, ↓x_agFld0, ↓x_agC, ↓x_mth0, ↓x_mtC, ↓x_apd0, ↓x_bm_remove, ↓x_bm_pop, ↓x_bm_insert, ↓x_bm_reverse, ↓x_bm_clear, ↓x_bmCl, ↓x_cnt, ↓x_idxm, ↓x_bmK, ↓x_ext0, ↓x_exC, ↓x_apC, Bool.true_xor, Bool.false_xor, bfRm, bfP0, bfP1, bfIn, bfRv, bfCl, sqT, sqL, sqA, lsL, lsA, lmL, lmA, lmR, lmCl, cvT, cvF, arN, arP, arK, arD, lkHit, tpTv, tpT, tpL, tpA, tpR, trN, trB, trI, trT, trL, trA, itN, itB, itI, itS, itT, itL, itA, itO, sqR, lsR, lsCl, lsCf, trR, trCl, trCf, itR, itCl, itCf, itCi, gv0, gvS, sv0, svS, uv0, uvS, svsN, svsC, uvsN, uvsC, wGn, wGt, wGsN, wGsC, ctNn, ctNt, ctNsN, ctNsC, st0E, isNN, isBN, isIN, isSN, isTN, isLN, isON, isRN, isAN, isBB, at0, ix0, at1, ix1, at2, ix2, at3, ix3, at4, ix4, at5, ix5, at6, ix6, at7, ix7, atI_map, lkRV, sz0, sz1, sz2, sz3, sz4, sz5, sz6, sz7, sz8, sz9, sz10, sz11, sz12, sz13, sz14, sz15, sz16, ↓hid_val, enum_map, zip_map, rev_map, List.map_cons, List.map_nil, List.length_cons, List.length_nil, List.length_map, List.replicate_succ, List.replicate_zero, List.cons_append, List.nil_append, List.append_nil, Option.bind_some, Option.map_some, Option.isSome_some, Option.isSome_none, reduceCtorEq, Nat.reduceAdd, Nat.reduceSub, Nat.reduceMul, ite_true, ite_false, if_true, if_false, Bool.not_true, Bool.not_false, Bool.not_not, decide_true, decide_false, Bool.false_eq_true, and_true, true_and, len_concat, set_concat, List.set_cons_zero, List.set_cons_succ, List.getD_cons_zero, List.getD_cons_succ, List.take_succ_cons, List.take_zero, List.drop_succ_cons, List.drop_zero, List.getElem?_cons_zero, List.getElem?_cons_succ, ints_map, ints_map', bls_map, or_self, false_or, or_false, true_or, or_true, Nat.zero_add, List.isEmpty_cons, List.isEmpty_nil, lk_rF_many, lk_rF_width, lk_rF_pages, lk_rF_copies, lk_rF_shuts, lk_rF_read, lk_rF_write, lk_rF_need, lk_rF_numbers, lk_rF_own_page, lk_rF_twin, lk_rF_copied, lk_rF_is_shut, lk_rF_shared, lk_pF_kept, lk_pF_holders, lk_vF_held, lk_vF_lengths, lk_vF_begin, lk_vF_steps, lk_vF_tell, lk_vF_room, lk_vF_sides, lk_vF_first, lk_vF_strides, lk_vF_cells, lk_vF_cell, lk_vF_at, lk_vF_put, lk_vF_numbers, lk_vF_nested, lk_vF_twin, lk_vF_copy_of, lk_pZ_kept, lk_pZ_holders, lk_vZ_held, lk_vZ_lengths, lk_vZ_begin, lk_vZ_steps, lk_vZ_tell, lk_vZ_room, lk_vZ_sides, lk_vZ_first, lk_vZ_strides, lk_vZ_cells, lk_vZ_cell, lk_vZ_at, lk_vZ_put, lk_vZ_numbers, lk_vZ_nested, lk_vZ_twin, lk_vZ_copy_of, pt_p_kept, pu_p_kept, pt_p_holders, pu_p_holders, pt_r_many, pu_r_many, pt_r_width, pu_r_width, pt_r_pages, pu_r_pages, pt_r_copies, pu_r_copies, pt_r_shuts, pu_r_shuts, pt_v_held, pu_v_held, pt_v_lengths, pu_v_lengths, pt_v_begin, pu_v_begin, pt_v_steps, pu_v_steps, pr_many, pr_width, pr_pages, pr_copies, pr_shuts, rF_len, List.mem_cons, List.mem_singleton, List.not_mem_nil, Nat.reduceLT, lk_v1_tell, List.set_set, List.getElem?_set_self, get_mid, get_mid2, eq_self, lk_q_kept, lk_q_holders, pr_q_holders, pgF_len])
local macro_rules | `(tactic| walk_at "gc") => `(tactic| first | refine cnd_t (decide_eq_true (by omega)) ?_ | refine cnd_f (decide_eq_false (by omega)) ?_)
local macro_rules | `(tactic| walk_at "gw") => `(tactic| (walk_at "gs"; repeat (walk_at "gc"; walk_at "gs")))
local macro_rules | `(tactic| walk_at "gv") => `(tactic| (walk_at "gs"; repeat ((first | refine ap_room ?_ | refine ap_sides ?_ | refine ap_first ?_ | refine ap_strides ?_); walk_at "gs")))
local macro_rules | `(tactic| walk_at "gu") => `(tactic| (walk_at "gv"; repeat (walk_at "gc"; walk_at "gv")))
local macro_rules | `(tactic| walk_at "gh") => `(tactic| try simp -implicitDefEqProofs only [↓h_oP, ↓h_vr, ↓h_vI, ↓h_cnd, ↓h_eqR, ↓h_inR, ↓h_ap, ↓h_wLoop, ↓h_wComp, ↓h_gcd, ↓h_fldC, ↓h_stC, ↓h_stFC, ↓h_agC, ↓h_mtC, ↓h_exC, ↓h_lenC, ↓h_eqOR, ↓h_eqIR, ↓h_eqMR, ↓h_bmC, ↓h_apC, ↓x_skip, ↓x_seq, ↓x_asg, ↓x_asgT, ↓x_asgS, ↓x_asgD, ↓x_setIx, ↓x_setFld, ↓x_aug, ↓x_augFld, ↓x_ret, ↓x_ex, ↓x_ifS, ↓x_for, ↓x_brk, ↓x_bad, ↓x_badE, ↓x_cont, ↓x_ret0, ↓x_con, ↓x_var, ↓x_thaw, ↓x_cool, ↓x_maxD, ↓x_bin, ↓x_neg, ↓x_nt, ↓x_cmp, ↓x_chn, ↓x_an, ↓x_orr, ↓x_ife, ↓x_tup, ↓x_lst, ↓x_ix, ↓x_sl, ↓x_sl3, ↓x_srev, ↓x_fld, ↓x_call, ↓x_callk, ↓x_newk, ↓x_lrng, ↓x_lnrg, ↓x_lenI, ↓x_cmpO, ↓x_cmpM, ↓x_cmpI, ↓x_lenL, ↓x_lenA, ↓x_lenT, ↓x_lenO, ↓x_lenR, ↓x_lenCi, ↓x_lenCl, ↓x_lenCf, ↓x_new, ↓x_mth, ↓x_blt, ↓x_bm, ↓x_isi, ↓x_lc, ↓x_lc2, ↓x_yes, ↓x_val, ↓x_ntB, ↓x_anB, ↓x_orB, ↓x_oN, ↓x_oS, ↓x_nil, ↓x_cons, ↓x_ival, ↓x_rng1, ↓x_rng2, ↓x_rng3, ↓x_enum, ↓x_enumz, ↓x_zip, ↓x_rev, ↓x_oPs, ↓x_vrs, ↓x_vIs, ↓x_inI, ↓x_inB, ↓x_inV, ↓x_toI, ↓x_toIb, ↓x_toB, ↓x_toBb, ↓x_cT, ↓x_cF, ↓x_cN, ↓x_thwA, ↓x_thwV, ↓x_adV, ↓x_adA, ↓x_asN, ↓x_asV, ↓x_asA, ↓x_fldO, ↓x_ixN, ↓x_mthO, ↓x_bII, ↓x_bTI, ↓x_bTT, ↓x_blAA, ↓x_blAL, ↓x_bmA, ↓x_blLA, ↓x_blLL, ↓x_bmL, ↓x_blRA, ↓x_blRL, ↓x_blRR, ↓x_blAR, ↓x_blLR, ↓x_binIp, ↓x_binIs, ↓x_binIm, ↓x_binId, ↓x_binIr, ↓x_binAp, ↓x_binAs, ↓x_binAm, ↓x_binAd, ↓x_binAr, ↓x_binIw, ↓x_lt, ↓x_le, ↓x_gt, ↓x_ge, ↓x_eq, ↓x_ne, ↓x_is, ↓x_isn, ↓x_in, ↓x_nin, ↓x_eqI, ↓x_eqT, ↓x_oInt, ↓x_iInt, ↓x_oBl, ↓x_iBl, ↓x_oNon, ↓x_iNon, ↓x_oTup, ↓x_iTup, ↓x_oLst, ↓x_iLst, ↓x_oAl, ↓x_iAl, ↓x_oStr, ↓x_iStr, ↓x_ixR, ↓x_slT, ↓x_slA, ↓x_slL, ↓x_slR, ↓x_sl3R, ↓x_partI, ↓x_partN, ↓x_hdC, ↓x_srT, ↓x_srA, ↓x_srL, ↓x_srR, ↓x_len, ↓x_abs, ↓x_min, ↓x_max, ↓x_min1, ↓x_max1, ↓x_sum, ↓x_all, ↓x_any, ↓x_int, ↓x_bool, ↓x_list, ↓x_tuple, ↓x_dm, ↓x_fldR0, ↓x_fldC, ↓x_stIx0, ↓x_stC, ↓x_stFld0, ↓x_stFC, ↓x_agFld0, ↓x_agC, ↓x_mth0, ↓x_mtC, ↓x_apd0, ↓x_bm_remove, ↓x_bm_pop, ↓x_bm_insert, ↓x_bm_reverse, ↓x_bm_clear, ↓x_bmCl, ↓x_cnt, ↓x_idxm, ↓x_bmK, ↓x_ext0, ↓x_exC, ↓x_apC, Bool.true_xor, Bool.false_xor, bfRm, bfP0, bfP1, bfIn, bfRv, bfCl, sqT, sqL, sqA, lsL, lsA, lmL, lmA, lmR, lmCl, cvT, cvF, arN, arP, arK, arD, lkHit, tpTv, tpT, tpL, tpA, tpR, trN, trB, trI, trT, trL, trA, itN, itB, itI, itS, itT, itL, itA, itO, sqR, lsR, lsCl, lsCf, trR, trCl, trCf, itR, itCl, itCf, itCi, gv0, gvS, sv0, svS, uv0, uvS, svsN, svsC, uvsN, uvsC, wGn, wGt, wGsN, wGsC, ctNn, ctNt, ctNsN, ctNsC, st0E, isNN, isBN, isIN, isSN, isTN, isLN, isON, isRN, isAN, isBB, at0, ix0, at1, ix1, at2, ix2, at3, ix3, at4, ix4, at5, ix5, at6, ix6, at7, ix7, atI_map, lkRV, sz0, sz1, sz2, sz3, sz4, sz5, sz6, sz7, sz8, sz9, sz10, sz11, sz12, sz13, sz14, sz15, sz16, ↓hid_val, enum_map, zip_map, rev_map, List.map_cons, List.map_nil, List.length_cons, List.length_nil, List.length_map, List.replicate_succ, List.replicate_zero, List.cons_append, List.nil_append, List.append_nil, Option.bind_some, Option.map_some, Option.isSome_some, Option.isSome_none, reduceCtorEq, Nat.reduceAdd, Nat.reduceSub, Nat.reduceMul, ite_true, ite_false, if_true, if_false, Bool.not_true, Bool.not_false, Bool.not_not, decide_true, decide_false, Bool.false_eq_true, and_true, true_and, len_concat, set_concat, List.set_cons_zero, List.set_cons_succ, List.getD_cons_zero, List.getD_cons_succ, List.take_succ_cons, List.take_zero, List.drop_succ_cons, List.drop_zero, List.getElem?_cons_zero, List.getElem?_cons_succ, ints_map, ints_map', bls_map, or_self, false_or, or_false, true_or, or_true, Nat.zero_add, List.isEmpty_cons, List.isEmpty_nil, lk_rF_many, lk_rF_width, lk_rF_pages, lk_rF_copies, lk_rF_shuts, lk_rF_read, lk_rF_write, lk_rF_need, lk_rF_numbers, lk_rF_own_page, lk_rF_twin, lk_rF_copied, lk_rF_is_shut, lk_rF_shared, lk_pF_kept, lk_pF_holders, lk_vF_held, lk_vF_lengths, lk_vF_begin, lk_vF_steps, lk_vF_tell, lk_vF_room, lk_vF_sides, lk_vF_first, lk_vF_strides, lk_vF_cells, lk_vF_cell, lk_vF_at, lk_vF_put, lk_vF_numbers, lk_vF_nested, lk_vF_twin, lk_vF_copy_of, lk_pZ_kept, lk_pZ_holders, lk_vZ_held, lk_vZ_lengths, lk_vZ_begin, lk_vZ_steps, lk_vZ_tell, lk_vZ_room, lk_vZ_sides, lk_vZ_first, lk_vZ_strides, lk_vZ_cells, lk_vZ_cell, lk_vZ_at, lk_vZ_put, lk_vZ_numbers, lk_vZ_nested, lk_vZ_twin, lk_vZ_copy_of, pt_p_kept, pu_p_kept, pt_p_holders, pu_p_holders, pt_r_many, pu_r_many, pt_r_width, pu_r_width, pt_r_pages, pu_r_pages, pt_r_copies, pu_r_copies, pt_r_shuts, pu_r_shuts, pt_v_held, pu_v_held, pt_v_lengths, pu_v_lengths, pt_v_begin, pu_v_begin, pt_v_steps, pu_v_steps, pr_many, pr_width, pr_pages, pr_copies, pr_shuts, rF_len, List.mem_cons, List.mem_singleton, List.not_mem_nil, Nat.reduceLT, lk_v1_tell, List.set_set, List.getElem?_set_self, get_mid, get_mid2, eq_self, lk_q_kept, lk_q_holders, pr_q_holders, pgF_len, *])
theorem nd_inj {l : List Nat} (nd : l.Nodup) {a b x : Nat} (ha : l[a]? = some x) (hb : l[b]? = some x) : a = b :=
  (List.getElem?_inj (List.getElem?_eq_some_iff.mp ha).1 nd).mp (ha.trans hb.symm)
theorem mem_set {l : List Nat} {a x : Nat} (ha : a < l.length) {q : Nat} : q ∈ l.set a x ↔ q = x ∨ ∃ b, b ≠ a ∧ l[b]? = some q := by
  rw [List.mem_iff_getElem?]
  constructor
  · rintro ⟨b, hb⟩
    rw [List.getElem?_set] at hb
    split at hb
    · exact .inl (Option.some.inj hb).symm
    · rename_i n; exact .inr ⟨b, fun e => n e.symm, hb⟩
  · rintro (rfl | ⟨b, n, hb⟩)
    · exact ⟨a, by rw [List.getElem?_set_self ha]⟩
    · exact ⟨b, by rw [List.getElem?_set_ne (Ne.symm n)]; exact hb⟩
theorem nd_set {l : List Nat} (nd : l.Nodup) {a x : Nat} (hx : x ∉ l) : (l.set a x).Nodup := by
  rw [List.nodup_iff_pairwise_ne, List.pairwise_iff_getElem]
  intro i j hi hj lt e
  rw [List.getElem_set, List.getElem_set] at e
  split at e
  · split at e
    · omega
    · exact hx (e ▸ List.getElem_mem _)
  · split at e
    · exact hx (e ▸ List.getElem_mem _)
    · rw [List.nodup_iff_pairwise_ne] at nd
      exact List.pairwise_iff_getElem.mp nd i j (by simpa using hi) (by simpa using hj) lt e
theorem chunk_len (w : Nat) (ns : List Int) : (chunk w ns).length = (ns.length + (w - 1)) / w := by simp [chunk]
theorem chunk_set {w : Nat} (w0 : 0 < w) {ns : List Int} {c : Nat} (hc : c < ns.length) (v : Int) {pn : List Int} (hp : (chunk w ns)[c / w]? = some pn) : (chunk w ns).set (c / w) (pn.set (c % w) v) = chunk w (ns.set c v) := by
  apply List.ext_getElem? 
  intro i
  rw [List.getElem?_set]
  unfold chunk at hp ⊢
  rw [List.length_set]
  simp only [List.length_map, List.length_range, List.getElem?_map]
  have hp2 := hp
  rw [List.getElem?_map] at hp2
  obtain ⟨x, hx, hx2⟩ := Option.map_eq_some_iff.mp hp2
  have lt : c / w < (ns.length + (w - 1)) / w := by simpa using (List.getElem?_eq_some_iff.mp hx).1
  have ex : x = c / w := by
    rw [List.getElem?_range lt] at hx; cases hx; rfl
  subst ex
  by_cases e : c / w = i
  · subst e
    rw [if_pos rfl, if_pos lt, List.getElem?_range lt]
    show _ = some _
    rw [← hx2]
    show some (((ns.drop (c / w * w)).take w).set (c % w) v) = some ((((ns.set c v).drop (c / w * w)).take w))
    rw [List.drop_set, if_neg (by have := Nat.div_mul_le_self c w; omega), List.take_set]
    congr 2
    have := Nat.div_add_mod' c w
    omega
  · rw [if_neg e]
    by_cases l2 : i < (ns.length + (w - 1)) / w
    · rw [List.getElem?_range l2]
      show some _ = some _
      congr 1
      show (ns.drop (i * w)).take w = ((ns.set c v).drop (i * w)).take w
      rw [List.drop_set]
      split
      · rfl
      · rename_i n
        rw [List.take_set, List.set_eq_of_length_le]
        rw [List.length_take]
        have : i < c / w := by
          have : i ≤ c / w := (Nat.le_div_iff_mul_le w0).mpr (by omega)
          omega
        have h1 : (i + 1) * w ≤ c := (Nat.le_div_iff_mul_le w0).mp this
        rw [Nat.succ_mul] at h1
        omega
    · rw [List.getElem?_eq_none (by simpa using l2)]
      rfl
structure Fr (h h' : CH) (o o' : Own) : Prop where
  le : h.length ≤ h'.length
  out : ∀ a, a < h.length → o a = none → h'[a]? = h[a]?
  keep : ∀ a, a < h.length → o a = none → o' a = none
  cl : clH h → clH h'
theorem Fr.refl (h : CH) (o : Own) : Fr h h o o := ⟨Nat.le_refl _, fun _ _ _ => rfl, fun _ _ q => q, fun q => q⟩
theorem Fr.trans {h h1 h2 : CH} {o o1 o2 : Own} (a : Fr h h1 o o1) (b : Fr h1 h2 o1 o2) : Fr h h2 o o2 :=
  ⟨Nat.le_trans a.le b.le, fun x l q => (b.out x (Nat.lt_of_lt_of_le l a.le) (a.keep x l q)).trans (a.out x l q), fun x l q => b.keep x (Nat.lt_of_lt_of_le l a.le) (a.keep x l q), fun q => b.cl (a.cl q)⟩
theorem rm_flat {c : Cn} {h : CH} {W : GW} {o : Own} {i : Nat} {R : RG} (r : RmAt c h W o i R) : ∀ {W2 : GW} {ns : List Int} {ps : List Nat}, ps.map (fun p => (W2.pg p).ns) = chunk R.w ns → ps.flatMap (fun p => (W2.pg p).ns) = ns := by
  intro W2 ns ps e
  rw [List.flatMap_def, e, chunk_flat r.w0]
theorem hold_one {W : GW} {i j : Nat} {R S : RG} {p : Nat} (hi : W.rs[i]? = some R) (hj : W.rs[j]? = some S) (h1 : W.hold p ≤ 1) (pi : p ∈ R.ps) (pj : p ∈ S.ps) : i = j := by
  refine Classical.byContradiction fun ne => ?_
  have li := (List.getElem?_eq_some_iff.mp hi).1
  have h0 : (W.rs.set i ⟨0, 0, 0, 0, [], 0, 0⟩).countP (fun R => decide (p ∈ R.ps)) = 0 := by
    rw [List.countP_set li, (List.getElem?_eq_some_iff.mp hi).2, if_pos (by simpa using pi), if_neg (by simp)]
    unfold GW.hold at h1
    omega
  rw [List.countP_eq_zero] at h0
  refine h0 S ?_ (by simpa using pj)
  rw [List.mem_iff_getElem?]
  exact ⟨j, by rw [List.getElem?_set_ne ne]; exact hj⟩
/-! ### a number put -/
def GW.setPg (W : GW) (p : Nat) (G : PG) : GW := { W with pg := fun q => if q = p then G else W.pg q }
theorem setPg_self {W : GW} {p : Nat} {G : PG} : (W.setPg p G).pg p = G := if_pos rfl
theorem setPg_ne {W : GW} {p q : Nat} {G : PG} (n : q ≠ p) : (W.setPg p G).pg q = W.pg q := if_neg n
/-- numbers of the rooms -/
def GW.tab (W : GW) : List (List Int) := W.rs.map W.nums
theorem nums_congr {W V : GW} {R : RG} (e : ∀ p ∈ R.ps, (V.pg p).ns = (W.pg p).ns) : V.nums R = W.nums R := by
  unfold GW.nums
  rw [List.flatMap_def, List.flatMap_def]
  congr 1
  exact List.map_congr_left e
theorem tab_get {W : GW} {i : Nat} {R : RG} (hi : W.rs[i]? = some R) : W.tab[i]? = some (W.nums R) := by unfold GW.tab; rw [List.getElem?_map, hi]; rfl
/-- the pages of a room behind a change of one of its pages -/
theorem put_pages {c : Cn} {h : CH} {W V : GW} {o : Own} {i : Nat} {R : RG} (r : RmAt c h W o i R) {cell : Nat} {v : Int} (hc : cell < R.m) {p p2 : Nat} (hp : R.ps[cell / R.w]? = some p)
    (h1 : (V.pg p2).ns = (W.pg p).ns.set (cell % R.w) v) (h2 : ∀ q ∈ R.ps, q ≠ p → (V.pg q).ns = (W.pg q).ns) :
    (R.ps.set (cell / R.w) p2).map (fun p => (V.pg p).ns) = chunk R.w ((W.nums R).set cell v) := by
  have hcn : cell < (W.nums R).length := by rw [r.ml]; exact hc
  have hpn : (chunk R.w (W.nums R))[cell / R.w]? = some (W.pg p).ns := by rw [← r.ch, List.getElem?_map, hp]; rfl
  rw [← chunk_set r.w0 hcn v hpn, ← r.ch, List.map_set, h1]
  apply List.ext_getElem?
  intro b
  rw [List.getElem?_set, List.getElem?_set, List.length_map, List.length_map]
  by_cases e : cell / R.w = b
  · rw [if_pos e, if_pos e]
  · rw [if_neg e, if_neg e, List.getElem?_map, List.getElem?_map]
    cases hb : R.ps[b]? with
    | none => rfl
    | some q =>
      show some ((V.pg q).ns) = some ((W.pg q).ns)
      rw [h2 q (List.mem_of_getElem? hb) fun z => e (nd_inj r.nd hp (by rw [← z]; exact hb))]
theorem room_ok {c : Cn} {h : CH} {W : GW} {o : Own} {i : Nat} {R : RG} (r : RmAt c h W o i R) {cell : Nat} (hc : cell < R.m) : ∃ p, R.ps[cell / R.w]? = some p := by
  have hcn : cell < (W.nums R).length := by rw [r.ml]; exact hc
  have := (chunk_get r.w0 hcn).1
  rw [← r.ch, List.getElem?_map] at this
  obtain ⟨p, hp, _⟩ := Option.map_eq_some_iff.mp this
  exact ⟨p, hp⟩
/-- into a page of one's own -/
theorem Wd.put1 {c : Cn} {h : CH} {W : GW} {o : Own} (w : Wd c h W o) {i : Nat} {R : RG} (hi : W.rs[i]? = some R) {cell p : Nat} {v : Int} (hc : cell < R.m) (hp : R.ps[cell / R.w]? = some p) (h1 : ¬ 1 < (W.pg p).hd) :
    Wd c (h.set (W.pg p).kl (.lst (((W.pg p).ns.set (cell % R.w) v).map .int))) (W.setPg p { W.pg p with ns := (W.pg p).ns.set (cell % R.w) v }) o := by
  obtain ⟨V, hV⟩ : ∃ V, V = W.setPg p { W.pg p with ns := (W.pg p).ns.set (cell % R.w) v } := ⟨_, rfl⟩
  rw [← hV]
  have r := w.rm i R hi
  have pm := List.mem_of_getElem? hp
  have g := w.pg i R p hi pm
  have hold1 : W.hold p ≤ 1 := by have := g.hd; omega
  have e1 : (V.pg p).ns = (W.pg p).ns.set (cell % R.w) v := by rw [hV, setPg_self]
  have e2 : ∀ q, q ≠ p → V.pg q = W.pg q := fun q n => by rw [hV, setPg_ne n]
  have e3 : V.rs = W.rs := by rw [hV]; rfl
  have e4 : ∀ q, (V.pg q).kl = (W.pg q).kl ∧ (V.pg q).hd = (W.pg q).hd := fun q => by
    by_cases n : q = p
    · subst n; rw [hV, setPg_self]; exact ⟨rfl, rfl⟩
    · rw [e2 q n]; exact ⟨rfl, rfl⟩
  have own := w.lt (W.pg p).kl (by rw [g.ok]; simp)
  have out : ∀ a, o a ≠ some (3, p) → (h.set (W.pg p).kl (.lst (((W.pg p).ns.set (cell % R.w) v).map .int)))[a]? = h[a]? := fun a n => List.getElem?_set_ne fun e => n (by rw [← e]; exact g.ok)
  have pgs : R.ps.map (fun p => (V.pg p).ns) = chunk R.w ((W.nums R).set cell v) := by
    have := put_pages (V := V) (p2 := p) r (v := v) hc hp e1 (fun q _ n => by rw [e2 q n])
    rwa [show R.ps.set (cell / R.w) p = R.ps by
      obtain ⟨l, e⟩ := List.getElem?_eq_some_iff.mp hp
      rw [← e, List.set_getElem_self]] at this
  have nR : V.nums R = (W.nums R).set cell v := rm_flat r pgs
  have nS : ∀ (j : Nat) (S : RG), W.rs[j]? = some S → j ≠ i → V.nums S = W.nums S := fun j S hj n => nums_congr fun q hq => by
    rw [e2 q fun z => n (hold_one hj hi hold1 (z ▸ hq) pm)]
  have hh : ∀ q, V.hold q = W.hold q := fun q => by unfold GW.hold; rw [e3]
  refine ⟨fun j S hj => ?_, fun j S q hj hq => ?_, fun a ha => by rw [List.length_set]; exact w.lt a ha, by rw [e3]; exact w.few⟩
  · rw [e3] at hj
    have s := w.rm j S hj
    refine ⟨by rw [out _ (by rw [s.or]; simp)]; exact s.at_, by rw [out _ (by rw [s.ol]; simp)]; exact s.pl, s.or, s.ol, s.w0, s.w1, s.m1, s.nd, ?_, ?_⟩
    · by_cases n : j = i
      · subst n; rw [hi] at hj; cases hj
        rw [pgs, nR]
      · rw [nS j S hj n, ← s.ch]
        exact List.map_congr_left fun q hq => by rw [e2 q fun z => n (hold_one hj hi hold1 (z ▸ hq) pm)]
    · by_cases n : j = i
      · subst n; rw [hi] at hj; cases hj
        rw [nR, List.length_set, s.ml]
      · rw [nS j S hj n, s.ml]
  · rw [e3] at hj
    have s := w.pg j S q hj hq
    refine ⟨by rw [out _ (by rw [s.op]; simp), (e4 q).1, (e4 q).2]; exact s.at_, ?_, s.op, by rw [(e4 q).1]; exact s.ok, by rw [(e4 q).2, hh]; exact s.hd⟩
    rw [(e4 q).1]
    by_cases n : q = p
    · subst n
      rw [List.getElem?_set_self own, e1]
    · rw [out _ (by rw [s.ok]; simp; exact n), e2 q n]; exact s.kl
/-- into a page that others hold, too: a new one -/
def GW.put2 (W : GW) (n i : Nat) (R : RG) (at_ : Nat) (p : Nat) (G : PG) : GW where
  rs := W.rs.set i { R with ps := R.ps.set at_ (n + 1), cp := R.cp + 1 }
  pg := fun q => if q = n + 1 then G else if q = p then { W.pg p with hd := (W.pg p).hd - 1 } else W.pg q
theorem Wd.put2 {c : Cn} {h : CH} {W : GW} {o : Own} (w : Wd c h W o) {i : Nat} {R : RG} (hi : W.rs[i]? = some R) {cell p : Nat} {v : Int} (hc : cell < R.m) (hp : R.ps[cell / R.w]? = some p) (h1 : 1 < (W.pg p).hd) :
    Wd c ((ownH c h R (W.pg p) p (cell / R.w)).set h.length (.lst (((W.pg p).ns.set (cell % R.w) v).map .int))) (W.put2 h.length i R (cell / R.w) p ⟨h.length, (W.pg p).ns.set (cell % R.w) v, 1⟩)
      (fun a => if a = h.length then some (3, h.length + 1) else if a = h.length + 1 then some (2, h.length + 1) else o a) := by
  obtain ⟨n, hn⟩ : ∃ n, n = h.length := ⟨_, rfl⟩
  have r := w.rm i R hi
  have pm := List.mem_of_getElem? hp
  have g := w.pg i R p hi pm
  have ltp := w.lt p (by rw [g.op]; simp)
  have ltk := w.lt (W.pg p).kl (by rw [g.ok]; simp)
  have ltl := w.lt R.pl (by rw [r.ol]; simp)
  have ltr := w.lt R.r (by rw [r.or]; simp)
  have n2 : p ≠ R.r := fun e => by have := g.op; rw [e, r.or] at this; cases this
  have n3 : p ≠ R.pl := fun e => by have := g.op; rw [e, r.ol] at this; cases this
  have n4 : R.pl ≠ R.r := fun e => by have := r.ol; rw [e, r.or] at this; cases this
  have lat := (List.getElem?_eq_some_iff.mp hp).1
  have li := (List.getElem?_eq_some_iff.mp hi).1
  obtain ⟨hC, ehC⟩ : ∃ hC, hC = (ownH c h R (W.pg p) p (cell / R.w)).set h.length (.lst (((W.pg p).ns.set (cell % R.w) v).map .int)) := ⟨_, rfl⟩
  obtain ⟨V, eV⟩ : ∃ V, V = W.put2 h.length i R (cell / R.w) p ⟨h.length, (W.pg p).ns.set (cell % R.w) v, 1⟩ := ⟨_, rfl⟩
  rw [← ehC, ← eV]
  rw [← hn] at ltp ltl ltr ltk eV ehC ⊢
  have len : hC.length = n + 2 := by rw [ehC]; unfold ownH; simp; omega
  have gC : ∀ a, hC[a]? = if a = n then some (.lst (((W.pg p).ns.set (cell % R.w) v).map .int)) else if a = n + 1 then some (.ins c.Page (pgF n 1)) else if a = R.r then some (.ins c.Room (rF R.m R.w (.ref R.pl) (R.cp + 1) R.sh)) else if a = R.pl then some (.lst ((R.ps.set (cell / R.w) (n + 1)).map .ref)) else if a = p then some (.ins c.Page (pgF (W.pg p).kl ((W.pg p).hd - 1))) else h[a]? := by
    intro a
    rw [ehC]
    unfold ownH
    rw [← hn]
    simp only [List.getElem?_set, List.length_set, List.length_append, List.length_cons, List.length_nil, ← hn]
    by_cases a1 : a = n
    · subst a1; rw [if_pos rfl, if_pos (by omega), if_pos rfl]
    rw [if_neg (Ne.symm a1), if_neg a1]
    by_cases a2 : a = n + 1
    · subst a2
      rw [if_neg (by omega), if_neg (by omega), if_pos rfl, List.getElem?_append_right (by rw [List.length_set, ← hn]; omega), List.length_set, ← hn, show n + 1 - n = 1 by omega]
      rfl
    rw [if_neg a2]
    by_cases a3 : a = R.r
    · subst a3; rw [if_pos rfl, if_pos (by omega), if_pos rfl]
    rw [if_neg (Ne.symm a3), if_neg a3]
    by_cases a4 : a = R.pl
    · subst a4; rw [if_pos rfl, if_pos (by omega), if_pos rfl]
    rw [if_neg (Ne.symm a4), if_neg a4]
    rw [List.getElem?_append, List.length_set, ← hn]
    by_cases a5 : a < n
    · rw [if_pos a5, List.getElem?_set, ← hn]
      by_cases a6 : a = p
      · subst a6; rw [if_pos rfl, if_pos a5, if_pos rfl]
      · rw [if_neg (Ne.symm a6), if_neg a6]
    · rw [if_neg a5, if_neg (by omega), List.getElem?_eq_none (by simp; omega), List.getElem?_eq_none (by omega)]
  have Vrs : V.rs = W.rs.set i { R with ps := R.ps.set (cell / R.w) (n + 1), cp := R.cp + 1 } := by rw [eV]; rfl
  have Vn : V.pg (n + 1) = ⟨n, (W.pg p).ns.set (cell % R.w) v, 1⟩ := by rw [eV]; exact if_pos rfl
  have Vp : V.pg p = { W.pg p with hd := (W.pg p).hd - 1 } := by rw [eV]; show (if p = n + 1 then _ else _) = _; rw [if_neg (by omega), if_pos rfl]
  have Vq : ∀ q, q ≠ n + 1 → q ≠ p → V.pg q = W.pg q := fun q q1 q2 => by rw [eV]; show (if q = n + 1 then _ else _) = _; rw [if_neg q1, if_neg q2]
  have ltq : ∀ (j : Nat) (S : RG) (q : Nat), W.rs[j]? = some S → q ∈ S.ps → q < n := fun j S q hj hq => by rw [hn]; exact w.lt q (by rw [(w.pg j S q hj hq).op]; simp)
  have nsq : ∀ q, q < n → (V.pg q).ns = (W.pg q).ns := fun q l => by
    by_cases e : q = p
    · subst e; rw [Vp]
    · rw [Vq q (by omega) e]
  have klq : ∀ q, q < n → (V.pg q).kl = (W.pg q).kl := fun q l => by
    by_cases e : q = p
    · subst e; rw [Vp]
    · rw [Vq q (by omega) e]
  have frp : n + 1 ∉ R.ps := fun m => by have := ltq i R _ hi m; omega
  have pgs := put_pages (V := V) (p2 := n + 1) r (v := v) hc hp (by rw [Vn]) (fun q hq _ => nsq q (ltq i R q hi hq))
  have nR : V.nums { R with ps := R.ps.set (cell / R.w) (n + 1), cp := R.cp + 1 } = (W.nums R).set cell v := rm_flat r pgs
  have nS : ∀ (j : Nat) (S : RG), W.rs[j]? = some S → V.nums S = W.nums S := fun j S hj => nums_congr fun q hq => nsq q (ltq j S q hj hq)
  have hR : V.rs[i]? = some { R with ps := R.ps.set (cell / R.w) (n + 1), cp := R.cp + 1 } := by rw [Vrs, List.getElem?_set_self li]
  have hS : ∀ j, j ≠ i → V.rs[j]? = W.rs[j]? := fun j ne => by rw [Vrs, List.getElem?_set_ne (Ne.symm ne)]
  have holdV : ∀ q, V.hold q = (W.hold q - if q ∈ R.ps then 1 else 0) + if q ∈ R.ps.set (cell / R.w) (n + 1) then 1 else 0 := fun q => by
    unfold GW.hold
    rw [Vrs, List.countP_set li, (List.getElem?_eq_some_iff.mp hi).2]
    simp only [decide_eq_true_eq]
  have hold0 : W.hold (n + 1) = 0 := by
    unfold GW.hold
    rw [List.countP_eq_zero]
    intro S hS
    obtain ⟨j, hj⟩ := List.mem_iff_getElem?.mp hS
    simp only [decide_eq_true_eq]
    intro m
    have := ltq j S _ hj m
    omega
  have memq : ∀ q, q ≠ n + 1 → q ≠ p → (q ∈ R.ps.set (cell / R.w) (n + 1) ↔ q ∈ R.ps) := fun q q1 q2 => by
    rw [mem_set lat]
    constructor
    · rintro (e | ⟨b, _, hb⟩)
      · exact absurd e q1
      · exact List.mem_of_getElem? hb
    · intro m
      obtain ⟨b, hb⟩ := List.mem_iff_getElem?.mp m
      exact .inr ⟨b, fun e => q2 (by rw [e, hp] at hb; exact (Option.some.inj hb).symm), hb⟩
  have memp : p ∉ R.ps.set (cell / R.w) (n + 1) := by
    rw [mem_set lat]
    rintro (e | ⟨b, e, hb⟩)
    · omega
    · exact e (nd_inj r.nd hb hp)
  refine ⟨fun j S hj => ?_, fun j S q hj hq => ?_, fun a ha => ?_, by rw [Vrs, List.length_set]; exact w.few⟩
  · by_cases e : j = i
    · subst e
      rw [hR] at hj; cases hj
      refine ⟨?_, ?_, ?_, ?_, r.w0, r.w1, r.m1, nd_set r.nd frp, ?_, ?_⟩
      · rw [gC, if_neg (by show R.r ≠ n; omega), if_neg (by show R.r ≠ n + 1; omega), if_pos rfl]
      · rw [gC, if_neg (by show R.pl ≠ n; omega), if_neg (by show R.pl ≠ n + 1; omega), if_neg n4, if_pos rfl]
      · rw [if_neg (by show R.r ≠ n; omega), if_neg (by show R.r ≠ n + 1; omega)]; exact r.or
      · rw [if_neg (by show R.pl ≠ n; omega), if_neg (by show R.pl ≠ n + 1; omega)]; exact r.ol
      · rw [nR]; exact pgs
      · rw [nR, List.length_set]; exact r.ml
    · rw [hS j e] at hj
      have s := w.rm j S hj
      have lr := w.lt S.r (by rw [s.or]; simp)
      have ll := w.lt S.pl (by rw [s.ol]; simp)
      rw [← hn] at lr ll
      have x1 : S.r ≠ R.r := fun z => by have := s.or; rw [z, r.or] at this; cases this; exact e rfl
      have x2 : S.r ≠ R.pl := fun z => by have := s.or; rw [z, r.ol] at this; cases this
      have x3 : S.r ≠ p := fun z => by have := s.or; rw [z, g.op] at this; cases this
      have x4 : S.pl ≠ R.r := fun z => by have := s.ol; rw [z, r.or] at this; cases this
      have x5 : S.pl ≠ R.pl := fun z => by have := s.ol; rw [z, r.ol] at this; cases this; exact e rfl
      have x6 : S.pl ≠ p := fun z => by have := s.ol; rw [z, g.op] at this; cases this
      refine ⟨?_, ?_, ?_, ?_, s.w0, s.w1, s.m1, s.nd, ?_, ?_⟩
      · rw [gC, if_neg (by omega), if_neg (by omega), if_neg x1, if_neg x2, if_neg x3]; exact s.at_
      · rw [gC, if_neg (by omega), if_neg (by omega), if_neg x4, if_neg x5, if_neg x6]; exact s.pl
      · rw [if_neg (by omega), if_neg (by omega)]; exact s.or
      · rw [if_neg (by omega), if_neg (by omega)]; exact s.ol
      · rw [nS j S hj, ← s.ch]
        exact List.map_congr_left fun q hq => nsq q (ltq j S q hj hq)
      · rw [nS j S hj]; exact s.ml
  · by_cases q1 : q = n + 1
    · subst q1
      refine ⟨?_, ?_, ?_, ?_, ?_⟩
      · rw [gC, if_neg (by omega), if_pos rfl, Vn]
      · rw [Vn, gC, if_pos rfl]
      · rw [if_neg (by omega), if_pos rfl]
      · rw [Vn, if_pos rfl]
      · rw [Vn, holdV, hold0, if_neg frp, if_pos ((mem_set lat).mpr (.inl rfl))]; rfl
    · have old : ∃ (j : Nat) (S : RG), W.rs[j]? = some S ∧ q ∈ S.ps := by
        by_cases e : j = i
        · subst e
          rw [hR] at hj; cases hj
          rcases (mem_set lat).mp hq with z | ⟨b, _, hb⟩
          · exact absurd z q1
          · exact ⟨_, R, hi, List.mem_of_getElem? hb⟩
        · rw [hS j e] at hj; exact ⟨j, S, hj, hq⟩
      obtain ⟨j', S', hj', hq'⟩ := old
      have s := w.pg j' S' q hj' hq'
      have lq := ltq j' S' q hj' hq'
      have lk := w.lt (W.pg q).kl (by rw [s.ok]; simp)
      rw [← hn] at lk
      have y1 : (W.pg q).kl ≠ R.r := fun z => by have := s.ok; rw [z, r.or] at this; cases this
      have y2 : (W.pg q).kl ≠ R.pl := fun z => by have := s.ok; rw [z, r.ol] at this; cases this
      have y3 : (W.pg q).kl ≠ p := fun z => by have := s.ok; rw [z, g.op] at this; cases this
      have y4 : q ≠ R.r := fun z => by have := s.op; rw [z, r.or] at this; cases this
      have y5 : q ≠ R.pl := fun z => by have := s.op; rw [z, r.ol] at this; cases this
      refine ⟨?_, ?_, ?_, ?_, ?_⟩
      · rw [gC, if_neg (by omega), if_neg q1, if_neg y4, if_neg y5]
        by_cases q2 : q = p
        · subst q2; rw [if_pos rfl, Vp]
        · rw [if_neg q2, Vq q q1 q2]; exact s.at_
      · rw [klq q lq, nsq q lq, gC, if_neg (by omega), if_neg (by omega), if_neg y1, if_neg y2, if_neg y3]; exact s.kl
      · rw [if_neg (by omega), if_neg q1]; exact s.op
      · rw [klq q lq, if_neg (by omega), if_neg (by omega)]; exact s.ok
      · by_cases q2 : q = p
        · subst q2
          have hp1 : 1 ≤ W.hold q := by
            unfold GW.hold; rw [List.one_le_countP_iff]
            exact ⟨R, List.mem_of_getElem? hi, by simpa using pm⟩
          rw [Vp, holdV, if_pos pm, if_neg memp]
          have := g.hd
          show (W.pg q).hd - 1 = _
          omega
        · rw [Vq q q1 q2, holdV]
          have m := memq q q1 q2
          by_cases z : q ∈ R.ps
          · rw [if_pos z, if_pos (m.mpr z)]
            have hp1 : 1 ≤ W.hold q := by
              unfold GW.hold; rw [List.one_le_countP_iff]
              exact ⟨R, List.mem_of_getElem? hi, by simpa using z⟩
            have := s.hd
            omega
          · rw [if_neg z, if_neg (fun x => z (m.mp x))]
            have := s.hd
            omega
  · rw [len]
    change (if a = n then some (3, n + 1) else if a = n + 1 then some (2, n + 1) else o a) ≠ none at ha
    split at ha
    · omega
    · split at ha
      · omega
      · have := w.lt a ha; omega
end G

namespace G
open PySem PySem.Spec PyProof.Rows L2
local macro_rules | `(tactic| walk_at "gs") => `(tactic| try simp -implicitDefEqProofs only [↓h_oP, ↓h_vr, ↓h_vI, ↓h_cnd, ↓h_eqR, ↓h_inR, ↓h_ap, ↓h_wLoop, ↓h_wComp, ↓h_gcd, ↓h_fldC, ↓h_stC, ↓h_stFC, ↓h_agC, ↓h_mtC, ↓h_exC, ↓h_lenC, ↓h_eqOR, ↓h_eqIR, ↓h_eqMR, ↓h_bmC, ↓h_apC, ↓x_skip, ↓x_seq, ↓x_asg, ↓x_asgT, ↓x_asgS, ↓x_asgD, ↓x_setIx, ↓x_setFld, ↓x_aug, ↓x_augFld, ↓x_ret, ↓x_ex, ↓x_ifS, ↓x_for, ↓x_brk, ↓x_bad, ↓x_badE, ↓x_cont, ↓x_ret0, ↓x_con, ↓x_var, ↓x_thaw, ↓x_cool, ↓x_maxD, ↓x_bin, ↓x_neg, ↓x_nt, ↓x_cmp, ↓x_chn, ↓x_an, ↓x_orr, ↓x_ife, ↓x_tup, ↓x_lst, ↓x_ix, ↓x_sl, ↓x_sl3, ↓x_srev, ↓x_fld, ↓x_call, ↓x_callk, ↓x_newk, ↓x_lrng, ↓x_lnrg, ↓x_lenI, ↓x_cmpO, ↓x_cmpM, ↓x_cmpI, ↓x_lenL, ↓x_lenA, ↓x_lenT, ↓x_lenO, ↓x_lenR, ↓x_lenCi, ↓x_lenCl, ↓x_lenCf, ↓x_new, ↓x_mth, ↓x_blt, ↓x_bm, ↓x_isi, ↓x_lc, ↓x_lc2, ↓x_yes, ↓x_val, ↓x_ntB, ↓x_anB, ↓x_orB, ↓x_oN, ↓x_oS, ↓x_nil, ↓x_cons, ↓x_ival, ↓x_rng1, ↓x_rng2, ↓x_rng3, ↓x_enum, ↓x_enumz, ↓x_zip, ↓x_rev, ↓x_oPs, ↓x_vrs, ↓x_vIs, ↓x_inI, ↓x_inB, ↓x_inV, ↓x_toI, ↓x_toIb, ↓x_toB, ↓x_toBb, ↓x_cT, ↓x_cF, ↓x_cN, ↓x_thwA, ↓x_thwV, ↓x_adV, ↓x_adA, ↓x_asN, ↓x_asV, ↓x_asA, ↓x_fldO, ↓x_ixN, ↓x_mthO, ↓x_bII, ↓x_bTI, ↓x_bTT, ↓x_blAA, ↓x_blAL, ↓x_bmA, ↓x_blLA, ↓x_blLL, ↓x_bmL, ↓x_blRA, ↓x_blRL, ↓x_blRR, ↓x_blAR, ↓x_blLR, ↓x_binIp, ↓x_binIs, ↓x_binIm, ↓x_binId, ↓x_binIr, ↓x_binAp, ↓x_binAs, ↓x_binAm, ↓x_binAd, ↓x_binAr, ↓x_binIw, ↓x_lt, ↓x_le, ↓x_gt, ↓x_ge, ↓x_eq, ↓x_ne, ↓x_is, ↓x_isn, ↓x_in, ↓x_nin, ↓x_eqI, ↓x_eqT, ↓x_oInt, ↓x_iInt, ↓x_oBl, ↓x_iBl, ↓x_oNon, ↓x_iNon, ↓x_oTup, ↓x_iTup, ↓x_oLst, ↓x_iLst, ↓x_oAl, ↓x_iAl, ↓x_oStr, ↓x_iStr, ↓x_ixR, ↓x_slT, ↓x_slA, ↓x_slL, ↓x_slR, ↓x_sl3R, ↓x_partI, ↓x_partN, ↓x_hdC, ↓x_srT, ↓x_srA, ↓x_srL, ↓x_srR, ↓x_len, ↓x_abs, ↓x_min, ↓x_max, ↓x_min1, ↓x_max1, ↓x_sum, ↓x_all, ↓x_any, ↓x_int, ↓x_bool, ↓x_list, ↓x_tuple, ↓x_dm, ↓x_fldR0, ↓x_fldC, ↓x_stIx0, ↓x_stC, ↓x_stFld0, ↓x_stFC, ↓x_agFld0, ↓x_agC, ↓x_mth0, ↓x_mtC, ↓x_apd0, ↓x_bm_remove, ↓x_bm_pop, ↓x_bm_insert, ↓x_bm_reverse, ↓x_bm_clear, ↓x_bmCl, ↓x_cnt, ↓x_idxm, ↓x_bmK, ↓x_ext0, ↓x_exC, ↓x_apC, Bool.true_xor, Bool.false_xor, bfRm, bfP0, bfP1, bfIn, bfRv, bfCl, sqT, sqL, sqA, lsL, lsA, lmL, lmA, lmR, lmCl, cvT, cvF, arN, arP, arK, arD, lkHit, tpTv, tpT, tpL, tpA, tpR, trN, trB, trI, trT, trL, trA, itN, itB, itI, itS, itT, itL, itA, itO, sqR, lsR, lsCl, lsCf, trR, trCl, trCf, itR, itCl, itCf, itCi, gv0, gvS, sv0, svS, uv0, uvS, svsN, svsC, uvsN, uvsC, wGn, wGt, wGsN, wGsC, ctNn, ctNt, ctNsN, ctNsC, st0E, isNN, isBN, isIN, isSN, isTN, isLN, isON, isRN, isAN, isBB, at0, ix0, at1, ix1, at2, ix2, at3, ix3, at4, ix4, at5, ix5, at6, ix6, at7, ix7, atI_map, lkRV, sz0, sz1, sz2, sz3, sz4, sz5, sz6, sz7, sz8, sz9, sz10, sz11, sz12, sz13, sz14, sz15, sz16, ↓hid_val, enum_map, zip_map, rev_map, List.map_cons, List.map_nil, List.length_cons, List.length_nil, List.length_map, List.replicate_succ, List.replicate_zero, List.cons_append, List.nil_append, List.append_nil, Option.bind_some, Option.map_some, Option.isSome_some, Option.isSome_none, reduceCtorEq, Nat.reduceAdd, Nat.reduceSub, Nat.reduceMul, ite_true, ite_false, if_true, if_false, Bool.not_true, Bool.not_false, Bool.not_not, decide_true, decide_false, Bool.false_eq_true, and_true, true_and, len_concat, set_concat, List.set_cons_zero, List.set_cons_succ, List.getD_cons_zero, List.getD_cons_succ, List.take_succ_cons, List.take_zero, List.drop_succ_cons, List.drop_zero, List.getElem?_cons_zero, List.getElem?_cons_succ, ints_map, ints_map', bls_map, or_self, false_or, or_false, true_or, or_true, Nat.zero_add, List.isEmpty_cons, List.isEmpty_nil, lk_rF_many, lk_rF_width, lk_rF_pages, lk_rF_copies, lk_rF_shuts, lk_rF_read, lk_rF_write, lk_rF_need, lk_rF_numbers, lk_rF_own_page, lk_rF_twin, lk_rF_copied, lk_rF_is_shut, lk_rF_shared, lk_pF_kept, lk_pF_holders, lk_vF_held, lk_vF_lengths, lk_vF_begin, lk_vF_steps, lk_vF_tell, lk_vF_room, lk_vF_sides, lk_vF_first, lk_vF_strides, lk_vF_cells, lk_vF_cell, lk_vF_at, lk_vF_put, lk_vF_numbers, lk_vF_nested, lk_vF_twin, lk_vF_copy_of, lk_pZ_kept, lk_pZ_holders, lk_vZ_held, lk_vZ_lengths, lk_vZ_begin, lk_vZ_steps, lk_vZ_tell, lk_vZ_room, lk_vZ_sides, lk_vZ_first, lk_vZ_strides, lk_vZ_cells, lk_vZ_cell, lk_vZ_at, lk_vZ_put, lk_vZ_numbers, lk_vZ_nested, lk_vZ_twin, lk_vZ_copy_of, pt_p_kept, pu_p_kept, pt_p_holders, pu_p_holders, pt_r_many, pu_r_many, pt_r_width, pu_r_width, pt_r_pages, pu_r_pages, pt_r_copies, pu_r_copies, pt_r_shuts, pu_r_shuts, pt_v_held, pu_v_held, pt_v_lengths, pu_v_lengths, pt_v_begin, pu_v_begin, pt_v_steps, pu_v_steps, pr_many, pr_width, pr_pages, pr_copies, pr_shuts, rF_len, List.mem_cons, List.mem_singleton, List.not_mem_nil, Nat.reduceLT, lk_v1_tell, List.set_set, List.getElem?_set_self, get_mid, get_mid2, eq_self, lk_q_kept, lk_q_holders, pr_q_holders, pgF_len])
local macro_rules | `(tactic| walk_at "gc") => `(tactic| first | refine cnd_t (decide_eq_true (by omega)) ?_ | refine cnd_f (decide_eq_false (by omega)) ?_)
local macro_rules | `(tactic| walk_at "gw") => `(tactic| (walk_at "gs"; repeat (walk_at "gc"; walk_at "gs")))
local macro_rules | `(tactic| walk_at "gv") => `(tactic| (walk_at "gs"; repeat ((first | refine ap_room ?_ | refine ap_sides ?_ | refine ap_first ?_ | refine ap_strides ?_); walk_at "gs")))
local macro_rules | `(tactic| walk_at "gu") => `(tactic| (walk_at "gv"; repeat (walk_at "gc"; walk_at "gv")))
local macro_rules | `(tactic| walk_at "gh") => `(tactic| try simp -implicitDefEqProofs only [↓h_oP, ↓h_vr, ↓h_vI, ↓h_cnd, ↓h_eqR, ↓h_inR, ↓h_ap, ↓h_wLoop, ↓h_wComp, ↓h_gcd, ↓h_fldC, ↓h_stC, ↓h_stFC, ↓h_agC, ↓h_mtC, ↓h_exC, ↓h_lenC, ↓h_eqOR, ↓h_eqIR, ↓h_eqMR, ↓h_bmC, ↓h_apC, ↓x_skip, ↓x_seq, ↓x_asg, ↓x_asgT, ↓x_asgS, ↓x_asgD, ↓x_setIx, ↓x_setFld, ↓x_aug, ↓x_augFld, ↓x_ret, ↓x_ex, ↓x_ifS, ↓x_for, ↓x_brk, ↓x_bad, ↓x_badE, ↓x_cont, ↓x_ret0, ↓x_con, ↓x_var, ↓x_thaw, ↓x_cool, ↓x_maxD, ↓x_bin, ↓x_neg, ↓x_nt, ↓x_cmp, ↓x_chn, ↓x_an, ↓x_orr, ↓x_ife, ↓x_tup, ↓x_lst, ↓x_ix, ↓x_sl, ↓x_sl3, ↓x_srev, ↓x_fld, ↓x_call, ↓x_callk, ↓x_newk, ↓x_lrng, ↓x_lnrg, ↓x_lenI, ↓x_cmpO, ↓x_cmpM, ↓x_cmpI, ↓x_lenL, ↓x_lenA, ↓x_lenT, ↓x_lenO, ↓x_lenR, ↓x_lenCi, ↓x_lenCl, ↓x_lenCf, ↓x_new, ↓x_mth, ↓x_blt, ↓x_bm, ↓x_isi, ↓x_lc, ↓x_lc2, ↓x_yes, ↓x_val, ↓x_ntB, ↓x_anB, ↓x_orB, ↓x_oN, ↓x_oS, ↓x_nil, ↓x_cons, ↓x_ival, ↓x_rng1, ↓x_rng2, ↓x_rng3, ↓x_enum, ↓x_enumz, ↓x_zip, ↓x_rev, ↓x_oPs, ↓x_vrs, ↓x_vIs, ↓x_inI, ↓x_inB, ↓x_inV, ↓x_toI, ↓x_toIb, ↓x_toB, ↓x_toBb, ↓x_cT, ↓x_cF, ↓x_cN, ↓x_thwA, ↓x_thwV, ↓x_adV, ↓x_adA, ↓x_asN, ↓x_asV, ↓x_asA, ↓x_fldO, ↓x_ixN, ↓x_mthO, ↓x_bII, ↓x_bTI, ↓x_bTT, ↓x_blAA, ↓x_blAL, ↓x_bmA, ↓x_blLA, ↓x_blLL, ↓x_bmL, ↓x_blRA, ↓x_blRL, ↓x_blRR, ↓x_blAR, ↓x_blLR, ↓x_binIp, ↓x_binIs, ↓x_binIm, ↓x_binId, ↓x_binIr, ↓x_binAp, ↓x_binAs, ↓x_binAm, ↓x_binAd, ↓x_binAr, ↓x_binIw, ↓x_lt, ↓x_le, ↓x_gt, ↓x_ge, ↓x_eq, ↓x_ne, ↓x_is, ↓x_isn, ↓x_in, ↓x_nin, ↓x_eqI, ↓x_eqT, ↓x_oInt, ↓x_iInt, ↓x_oBl, ↓x_iBl, ↓x_oNon, ↓x_iNon, ↓x_oTup, ↓x_iTup, ↓x_oLst, ↓x_iLst, ↓x_oAl, ↓x_iAl, ↓x_oStr, ↓x_iStr, ↓x_ixR, ↓x_slT, ↓x_slA, ↓x_slL, ↓x_slR, ↓x_sl3R, ↓x_partI, ↓x_partN, ↓x_hdC, ↓x_srT, ↓x_srA, ↓x_srL, ↓x_srR, ↓x_len, ↓x_abs, ↓x_min, ↓x_max, ↓x_min1, ↓x_max1, ↓x_sum, ↓x_all, ↓x_any, ↓x_int, ↓x_bool, ↓x_list, ↓x_tuple, ↓x_dm, ↓x_fldR0, ↓x_fldC, ↓x_stIx0, ↓x_stC, ↓x_stFld0, ↓x_stFC, ↓x_agFld0, ↓x_agC, ↓x_mth0, ↓x_mtC, ↓x_apd0, ↓x_bm_remove, ↓x_bm_pop, ↓x_bm_insert, ↓x_bm_reverse, ↓x_bm_clear, ↓x_bmCl, ↓x_cnt, ↓x_idxm, ↓x_bmK, ↓x_ext0, ↓x_exC, ↓x_apC, Bool.true_xor, Bool.false_xor, bfRm, bfP0, bfP1, bfIn, bfRv, bfCl, sqT, sqL, sqA, lsL, lsA, lmL, lmA, lmR, lmCl, cvT, cvF, arN, arP, arK, arD, lkHit, tpTv, tpT, tpL, tpA, tpR, trN, trB, trI, trT, trL, trA, itN, itB, itI, itS, itT, itL, itA, itO, sqR, lsR, lsCl, lsCf, trR, trCl, trCf, itR, itCl, itCf, itCi, gv0, gvS, sv0, svS, uv0, uvS, svsN, svsC, uvsN, uvsC, wGn, wGt, wGsN, wGsC, ctNn, ctNt, ctNsN, ctNsC, st0E, isNN, isBN, isIN, isSN, isTN, isLN, isON, isRN, isAN, isBB, at0, ix0, at1, ix1, at2, ix2, at3, ix3, at4, ix4, at5, ix5, at6, ix6, at7, ix7, atI_map, lkRV, sz0, sz1, sz2, sz3, sz4, sz5, sz6, sz7, sz8, sz9, sz10, sz11, sz12, sz13, sz14, sz15, sz16, ↓hid_val, enum_map, zip_map, rev_map, List.map_cons, List.map_nil, List.length_cons, List.length_nil, List.length_map, List.replicate_succ, List.replicate_zero, List.cons_append, List.nil_append, List.append_nil, Option.bind_some, Option.map_some, Option.isSome_some, Option.isSome_none, reduceCtorEq, Nat.reduceAdd, Nat.reduceSub, Nat.reduceMul, ite_true, ite_false, if_true, if_false, Bool.not_true, Bool.not_false, Bool.not_not, decide_true, decide_false, Bool.false_eq_true, and_true, true_and, len_concat, set_concat, List.set_cons_zero, List.set_cons_succ, List.getD_cons_zero, List.getD_cons_succ, List.take_succ_cons, List.take_zero, List.drop_succ_cons, List.drop_zero, List.getElem?_cons_zero, List.getElem?_cons_succ, ints_map, ints_map', bls_map, or_self, false_or, or_false, true_or, or_true, Nat.zero_add, List.isEmpty_cons, List.isEmpty_nil, lk_rF_many, lk_rF_width, lk_rF_pages, lk_rF_copies, lk_rF_shuts, lk_rF_read, lk_rF_write, lk_rF_need, lk_rF_numbers, lk_rF_own_page, lk_rF_twin, lk_rF_copied, lk_rF_is_shut, lk_rF_shared, lk_pF_kept, lk_pF_holders, lk_vF_held, lk_vF_lengths, lk_vF_begin, lk_vF_steps, lk_vF_tell, lk_vF_room, lk_vF_sides, lk_vF_first, lk_vF_strides, lk_vF_cells, lk_vF_cell, lk_vF_at, lk_vF_put, lk_vF_numbers, lk_vF_nested, lk_vF_twin, lk_vF_copy_of, lk_pZ_kept, lk_pZ_holders, lk_vZ_held, lk_vZ_lengths, lk_vZ_begin, lk_vZ_steps, lk_vZ_tell, lk_vZ_room, lk_vZ_sides, lk_vZ_first, lk_vZ_strides, lk_vZ_cells, lk_vZ_cell, lk_vZ_at, lk_vZ_put, lk_vZ_numbers, lk_vZ_nested, lk_vZ_twin, lk_vZ_copy_of, pt_p_kept, pu_p_kept, pt_p_holders, pu_p_holders, pt_r_many, pu_r_many, pt_r_width, pu_r_width, pt_r_pages, pu_r_pages, pt_r_copies, pu_r_copies, pt_r_shuts, pu_r_shuts, pt_v_held, pu_v_held, pt_v_lengths, pu_v_lengths, pt_v_begin, pu_v_begin, pt_v_steps, pu_v_steps, pr_many, pr_width, pr_pages, pr_copies, pr_shuts, rF_len, List.mem_cons, List.mem_singleton, List.not_mem_nil, Nat.reduceLT, lk_v1_tell, List.set_set, List.getElem?_set_self, get_mid, get_mid2, eq_self, lk_q_kept, lk_q_holders, pr_q_holders, pgF_len, *])
def GW.put (W : GW) (n i : Nat) (R : RG) (cell : Nat) (v : Int) : GW := match R.ps[cell / R.w]? with
  | none => W
  | some p => if (W.nums R)[cell]? = some v then W else
    if 1 < (W.pg p).hd then W.put2 n i R (cell / R.w) p ⟨n, (W.pg p).ns.set (cell % R.w) v, 1⟩
    else W.setPg p { W.pg p with ns := (W.pg p).ns.set (cell % R.w) v }
def sp_Room_write (c : Cn) : Spec := fun cs h k _ => ∃ (W : GW) (o : Own) (i : Nat) (R : RG) (cell : Nat) (v : Int), cs = [.ref R.r, .int cell, .int v] ∧ Wd c h W o ∧ W.rs[i]? = some R ∧ cell < R.m ∧ R.sh = 0 ∧
  ∀ h' o', Wd c h' (W.put h.length i R cell v) o' → Fr h h' o o' → k (.v .non) h'
theorem clO_pg {c : Cn} {n kl : Nat} {hd : Int} (l : kl < n) : clO n (.ins c.Page (pgF kl hd)) := show clF n _ from ⟨l, trivial, trivial⟩
theorem cl_refs {n : Nat} : ∀ {ps : List Nat}, (∀ p ∈ ps, p < n) → clVs n (ps.map .ref)
  | [], _ => trivial
  | p :: ps, h => ⟨h p List.mem_cons_self, cl_refs fun q hq => h q (List.mem_cons_of_mem _ hq)⟩
theorem clO_rm {c : Cn} {n pl : Nat} {m w cp sh : Int} (l : pl < n) : clO n (.ins c.Room (rF m w (.ref pl) cp sh)) := show clF n _ from ⟨trivial, trivial, l, trivial, trivial, trivial⟩
theorem fr_put2 {c : Cn} {h : CH} {W : GW} {o : Own} (w : Wd c h W o) {i : Nat} {R : RG} (hi : W.rs[i]? = some R) {cell p : Nat} {v : Int} (hp : R.ps[cell / R.w]? = some p) :
    Fr h ((ownH c h R (W.pg p) p (cell / R.w)).set h.length (.lst (((W.pg p).ns.set (cell % R.w) v).map .int))) o (fun a => if a = h.length then some (3, h.length + 1) else if a = h.length + 1 then some (2, h.length + 1) else o a) := by
  have r := w.rm i R hi
  have pm := List.mem_of_getElem? hp
  have g := w.pg i R p hi pm
  have ltk := w.lt (W.pg p).kl (by rw [g.ok]; simp)
  have ltl := w.lt R.pl (by rw [r.ol]; simp)
  refine ⟨by unfold ownH; simp, fun a l ha => ?_, fun a l ha => ?_, fun hc => ?_⟩
  · have x1 : R.r ≠ a := fun z => by have := r.or; rw [z, ha] at this; cases this
    have x2 : R.pl ≠ a := fun z => by have := r.ol; rw [z, ha] at this; cases this
    have x3 : p ≠ a := fun z => by have := g.op; rw [z, ha] at this; cases this
    unfold ownH
    rw [List.getElem?_set_ne (by omega), List.getElem?_set_ne x1, List.getElem?_set_ne x2, List.getElem?_append_left (by rw [List.length_set]; exact l), List.getElem?_set_ne x3]
  · show (if a = h.length then _ else if a = h.length + 1 then _ else o a) = none
    rw [if_neg (by omega), if_neg (by omega)]; exact ha
  · have l2 : (h.set p (.ins c.Page (pgF (W.pg p).kl ((W.pg p).hd - 1))) ++ [CO.lst ((W.pg p).ns.map .int), CO.ins c.Page (pgF h.length 1)]).length = h.length + 2 := by simp
    have c1 : clH (h.set p (.ins c.Page (pgF (W.pg p).kl ((W.pg p).hd - 1)))) := clH_set hc (clO_pg ltk)
    have c2 : clH (h.set p (.ins c.Page (pgF (W.pg p).kl ((W.pg p).hd - 1))) ++ [CO.lst ((W.pg p).ns.map .int), CO.ins c.Page (pgF h.length 1)]) := by
      have := clH_app (clH_app c1 (o := .lst ((W.pg p).ns.map .int)) cl_ints) (o := .ins c.Page (pgF h.length 1)) (clO_pg (by simp; omega))
      simpa using this
    unfold ownH
    refine clH_set (clH_set (clH_set c2 ?_) ?_) cl_ints
    · refine cl_refs fun q hq => ?_
      rw [l2]
      rcases (mem_set (List.getElem?_eq_some_iff.mp hp).1).mp hq with rfl | ⟨b, _, hb⟩
      · omega
      · have := w.lt q (by rw [(w.pg i R q hi (List.mem_of_getElem? hb)).op]; simp); omega
    · refine clO_rm ?_
      rw [List.length_set, l2]; omega
theorem rd_page {c : Cn} {h : CH} {W : GW} {o : Own} {i : Nat} {R : RG} (r : RmAt c h W o i R) {cell p : Nat} (hc : cell < R.m) (hp : R.ps[cell / R.w]? = some p) : (W.pg p).ns[cell % R.w]? = (W.nums R)[cell]? := by
  have hcn : cell < (W.nums R).length := by rw [r.ml]; exact hc
  obtain ⟨e1, e2⟩ := chunk_get r.w0 hcn
  rw [← r.ch, List.getElem?_map, hp] at e1
  rw [← e2, show (W.pg p).ns = _ from Option.some.inj e1]
/-- Room.write: 0 self, 1 cell, 2 number -/
def ir_Room_write (c : Cn) : CS := .seq (.ex (.mth [(c.Room, (sp_Room_need c), 2, [])] "need" (.var 0) (.cons (.var 1) (.nil)))) (.seq (.ife (.val (.cmp .Gt (.fld (.var 0) "shuts" [c.Room]) (.con (.int 0)))) (.bad) (.skip)) (.ife (.val (.cmp .NotEq (.mth [(c.Room, (sp_Room_read c), 2, [])] "read" (.var 0) (.cons (.var 1) (.nil))) (.var 2))) (.setIx (.fld (.mth [(c.Room, (sp_Room_own_page c), 2, [])] "own_page" (.var 0) (.cons (.bin .FloorDiv (.var 1) (.fld (.var 0) "width" [c.Room])) (.nil))) "kept" [c.Page]) (.bin .Mod (.var 1) (.fld (.var 0) "width" [c.Room])) (.var 2)) (.skip)))
theorem w_Room_write (c : Cn) : ∀ cs h k E, sp_Room_write c cs h k E → cs.length = 3 → clH h → clVs h.length cs → wS (ir_Room_write c) (ret0 h k E) (st0 3 cs) h := by
  rintro _ h k E ⟨W, o, i, R, cell, v, rfl, w, hi, hc, sh0, hk⟩ _ hcl _
  unfold ir_Room_write
  have r := w.rm i R hi
  obtain ⟨p, hp⟩ := room_ok r hc
  have g := w.pg i R p hi (List.mem_of_getElem? hp)
  have hR := r.at_
  have w0 := r.w0
  have w1 := r.w1
  have hcn : cell < (W.nums R).length := by rw [r.ml]; exact hc
  obtain ⟨u, hu⟩ : ∃ u, (W.nums R)[cell]? = some u := ⟨_, List.getElem?_eq_getElem hcn⟩
  unfold GW.put at hk
  rw [hp] at hk
  dsimp only at hk
  walk_at "gh"
  refine ⟨_, _, _, _, _, _, _, rfl, hR, by omega, by omega, ?_⟩
  walk_at "gh"
  refine cnd_f (decide_eq_false (by omega)) ?_
  walk_at "gh"
  refine ⟨_, cell, W.nums R, u, rfl, w.rm_ hi, by omega, hu, ?_⟩
  walk_at "gh"
  have ec : ((W.nums R)[cell]? = some v) ↔ u = v := by rw [hu]; simp
  refine cnd_dec (fun z => ?_) (fun z => ?_)
  · rw [if_pos (ec.mpr z)] at hk
    walk_at "gh"
    exact gc_same (hk h o w (Fr.refl _ _))
  rw [if_neg fun q => z (ec.mp q)] at hk
  walk_at "gh"
  refine ⟨⟨by omega, by omega⟩, ?_⟩
  refine ⟨W, o, i, R, cell / R.w, p, rfl, w, hi, hp, ?_⟩
  have hm : cell % R.w < (W.pg p).ns.length := by
    have := rd_page r hc hp
    rw [hu] at this
    exact (List.getElem?_eq_some_iff.mp this).1
  have ltk := w.lt (W.pg p).kl (by rw [g.ok]; simp)
  have gp := g.at_
  have gk := g.kl
  by_cases y : 1 < (W.pg p).hd
  · rw [if_pos y] at hk ⊢
    have P := w.put2 (v := v) hi hc hp y
    have F := fr_put2 (v := v) w hi hp
    have ltp := w.lt p (by rw [g.op]; simp)
    have ltl := w.lt R.pl (by rw [r.ol]; simp)
    have ltr := w.lt R.r (by rw [r.or]; simp)
    have x1 : (ownH c h R (W.pg p) p (cell / R.w))[h.length + 1]? = some (.ins c.Page (pgF h.length 1)) := by
      unfold ownH
      rw [List.getElem?_set_ne (by omega), List.getElem?_set_ne (by omega), List.getElem?_append_right (by rw [List.length_set]; omega), List.length_set, show h.length + 1 - h.length = 1 by omega]; rfl
    have x2 : (ownH c h R (W.pg p) p (cell / R.w))[h.length]? = some (.lst ((W.pg p).ns.map .int)) := by
      unfold ownH
      rw [List.getElem?_set_ne (by omega), List.getElem?_set_ne (by omega), List.getElem?_append_right (by rw [List.length_set]; omega), List.length_set, show h.length - h.length = 0 by omega]; rfl
    have x3 : (ownH c h R (W.pg p) p (cell / R.w))[R.r]? = some (.ins c.Room (rF R.m R.w (.ref R.pl) (R.cp + 1) R.sh)) := by
      unfold ownH
      rw [List.getElem?_set_self (by simp; omega)]
    have hk := hk _ _ P F
    clear P F hR gp gk
    generalize ownH c h R (W.pg p) p (cell / R.w) = h2 at hk x1 x2 x3 ⊢
    walk_at "gh"
    refine ⟨by omega, ?_⟩
    walk_at "gh"
    refine oP_mk (x := cell % R.w) (by rw [show ((cell : Int) % (R.w : Int)) = ((cell % R.w : Nat) : Int) from rfl]; exact ixN_at hm) ?_
    walk_at "gh"
    rw [← List.map_set]
    exact gc_same hk
  · rw [if_neg y] at hk ⊢
    have P := w.put1 (v := v) hi hc hp y
    walk_at "gh"
    refine ⟨by omega, ?_⟩
    walk_at "gh"
    refine oP_mk (x := cell % R.w) (by rw [show ((cell : Int) % (R.w : Int)) = ((cell % R.w : Nat) : Int) from rfl]; exact ixN_at hm) ?_
    walk_at "gh"
    rw [← List.map_set]
    exact gc_same (hk _ o P ⟨by simp, fun a l ha => List.getElem?_set_ne fun e => (by have := g.ok; rw [e, ha] at this; cases this), fun _ _ q => q, fun q => clH_set q cl_ints⟩)
end G

namespace G
open PySem PySem.Spec PyProof.Rows L2
local macro_rules | `(tactic| walk_at "gs") => `(tactic| try simp -implicitDefEqProofs only [↓h_oP, ↓h_vr, ↓h_vI, ↓h_cnd, ↓h_eqR, ↓h_inR, ↓h_ap, ↓h_wLoop, ↓h_wComp, ↓h_gcd, ↓h_fldC, ↓h_stC, ↓h_stFC, ↓h_agC, ↓h_mtC, ↓h_exC, ↓h_lenC, ↓h_eqOR, ↓h_eqIR, ↓h_eqMR, ↓h_bmC, ↓h_apC, ↓x_skip, ↓x_seq, ↓x_asg, ↓x_asgT, ↓x_asgS, ↓x_asgD, ↓x_setIx, ↓x_setFld, ↓x_aug, ↓x_augFld, ↓x_ret, ↓x_ex, ↓x_ifS, ↓x_for, ↓x_brk, ↓x_bad, ↓x_badE, ↓x_cont, ↓x_ret0, ↓x_con, ↓x_var, ↓x_thaw, ↓x_cool, ↓x_maxD, ↓x_bin, ↓x_neg, ↓x_nt, ↓x_cmp, ↓x_chn, ↓x_an, ↓x_orr, ↓x_ife, ↓x_tup, ↓x_lst, ↓x_ix, ↓x_sl, ↓x_sl3, ↓x_srev, ↓x_fld, ↓x_call, ↓x_callk, ↓x_newk, ↓x_lrng, ↓x_lnrg, ↓x_lenI, ↓x_cmpO, ↓x_cmpM, ↓x_cmpI, ↓x_lenL, ↓x_lenA, ↓x_lenT, ↓x_lenO, ↓x_lenR, ↓x_lenCi, ↓x_lenCl, ↓x_lenCf, ↓x_new, ↓x_mth, ↓x_blt, ↓x_bm, ↓x_isi, ↓x_lc, ↓x_lc2, ↓x_yes, ↓x_val, ↓x_ntB, ↓x_anB, ↓x_orB, ↓x_oN, ↓x_oS, ↓x_nil, ↓x_cons, ↓x_ival, ↓x_rng1, ↓x_rng2, ↓x_rng3, ↓x_enum, ↓x_enumz, ↓x_zip, ↓x_rev, ↓x_oPs, ↓x_vrs, ↓x_vIs, ↓x_inI, ↓x_inB, ↓x_inV, ↓x_toI, ↓x_toIb, ↓x_toB, ↓x_toBb, ↓x_cT, ↓x_cF, ↓x_cN, ↓x_thwA, ↓x_thwV, ↓x_adV, ↓x_adA, ↓x_asN, ↓x_asV, ↓x_asA, ↓x_fldO, ↓x_ixN, ↓x_mthO, ↓x_bII, ↓x_bTI, ↓x_bTT, ↓x_blAA, ↓x_blAL, ↓x_bmA, ↓x_blLA, ↓x_blLL, ↓x_bmL, ↓x_blRA, ↓x_blRL, ↓x_blRR, ↓x_blAR, ↓x_blLR, ↓x_binIp, ↓x_binIs, ↓x_binIm, ↓x_binId, ↓x_binIr, ↓x_binAp, ↓x_binAs, ↓x_binAm, ↓x_binAd, ↓x_binAr, ↓x_binIw, ↓x_lt, ↓x_le, ↓x_gt, ↓x_ge, ↓x_eq, ↓x_ne, ↓x_is, ↓x_isn, ↓x_in, ↓x_nin, ↓x_eqI, ↓x_eqT, ↓x_oInt, ↓x_iInt, ↓x_oBl, ↓x_iBl, ↓x_oNon, ↓x_iNon, ↓x_oTup, ↓x_iTup, ↓x_oLst, ↓x_iLst, ↓x_oAl, ↓x_iAl, ↓x_oStr, ↓x_iStr, ↓x_ixR, ↓x_slT, ↓x_slA, ↓x_slL, ↓x_slR, ↓x_sl3R, ↓x_partI, ↓x_partN, ↓x_hdC, ↓x_srT, ↓x_srA, ↓x_srL, ↓x_srR, ↓x_len, ↓x_abs, ↓x_min, ↓x_max, ↓x_min1, ↓x_max1, ↓x_sum, ↓x_all, ↓x_any, ↓x_int, ↓x_bool, ↓x_list, ↓x_tuple, ↓x_dm, ↓x_fldR0, ↓x_fldC, ↓x_stIx0, ↓x_stC, ↓x_stFld0, ↓x_stFC, ↓x_agFld0, ↓x_agC, ↓x_mth0, ↓x_mtC, ↓x_apd0, ↓x_bm_remove, ↓x_bm_pop, ↓x_bm_insert, ↓x_bm_reverse, ↓x_bm_clear, ↓x_bmCl, ↓x_cnt, ↓x_idxm, ↓x_bmK, ↓x_ext0, ↓x_exC, ↓x_apC, Bool.true_xor, Bool.false_xor, bfRm, bfP0, bfP1, bfIn, bfRv, bfCl, sqT, sqL, sqA, lsL, lsA, lmL, lmA, lmR, lmCl, cvT, cvF, arN, arP, arK, arD, lkHit, tpTv, tpT, tpL, tpA, tpR, trN, trB, trI, trT, trL, trA, itN, itB, itI, itS, itT, itL, itA, itO, sqR, lsR, lsCl, lsCf, trR, trCl, trCf, itR, itCl, itCf, itCi, gv0, gvS, sv0, svS, uv0, uvS, svsN, svsC, uvsN, uvsC, wGn, wGt, wGsN, wGsC, ctNn, ctNt, ctNsN, ctNsC, st0E, isNN, isBN, isIN, isSN, isTN, isLN, isON, isRN, isAN, isBB, at0, ix0, at1, ix1, at2, ix2, at3, ix3, at4, ix4, at5, ix5, at6, ix6, at7, ix7, atI_map, lkRV, sz0, sz1, sz2, sz3, sz4, sz5, sz6, sz7, sz8, sz9, sz10, sz11, sz12, sz13, sz14, sz15, sz16, ↓hid_val, enum_map, zip_map, rev_map, List.map_cons, List.map_nil, List.length_cons, List.length_nil, List.length_map, List.replicate_succ, List.replicate_zero, List.cons_append, List.nil_append, List.append_nil, Option.bind_some, Option.map_some, Option.isSome_some, Option.isSome_none, reduceCtorEq, Nat.reduceAdd, Nat.reduceSub, Nat.reduceMul, ite_true, ite_false, if_true, if_false, Bool.not_true, Bool.not_false, Bool.not_not, decide_true, decide_false, Bool.false_eq_true, and_true, true_and, len_concat, set_concat, List.set_cons_zero, List.set_cons_succ, List.getD_cons_zero, List.getD_cons_succ, List.take_succ_cons, List.take_zero, List.drop_succ_cons, List.drop_zero, List.getElem?_cons_zero, List.getElem?_cons_succ, ints_map, ints_map', bls_map, or_self, false_or, or_false, true_or, or_true, Nat.zero_add, List.isEmpty_cons, List.isEmpty_nil, lk_rF_many, lk_rF_width, lk_rF_pages, lk_rF_copies, lk_rF_shuts, lk_rF_read, lk_rF_write, lk_rF_need, lk_rF_numbers, lk_rF_own_page, lk_rF_twin, lk_rF_copied, lk_rF_is_shut, lk_rF_shared, lk_pF_kept, lk_pF_holders, lk_vF_held, lk_vF_lengths, lk_vF_begin, lk_vF_steps, lk_vF_tell, lk_vF_room, lk_vF_sides, lk_vF_first, lk_vF_strides, lk_vF_cells, lk_vF_cell, lk_vF_at, lk_vF_put, lk_vF_numbers, lk_vF_nested, lk_vF_twin, lk_vF_copy_of, lk_pZ_kept, lk_pZ_holders, lk_vZ_held, lk_vZ_lengths, lk_vZ_begin, lk_vZ_steps, lk_vZ_tell, lk_vZ_room, lk_vZ_sides, lk_vZ_first, lk_vZ_strides, lk_vZ_cells, lk_vZ_cell, lk_vZ_at, lk_vZ_put, lk_vZ_numbers, lk_vZ_nested, lk_vZ_twin, lk_vZ_copy_of, pt_p_kept, pu_p_kept, pt_p_holders, pu_p_holders, pt_r_many, pu_r_many, pt_r_width, pu_r_width, pt_r_pages, pu_r_pages, pt_r_copies, pu_r_copies, pt_r_shuts, pu_r_shuts, pt_v_held, pu_v_held, pt_v_lengths, pu_v_lengths, pt_v_begin, pu_v_begin, pt_v_steps, pu_v_steps, pr_many, pr_width, pr_pages, pr_copies, pr_shuts, rF_len, List.mem_cons, List.mem_singleton, List.not_mem_nil, Nat.reduceLT, lk_v1_tell, List.set_set, List.getElem?_set_self, get_mid, get_mid2, eq_self, lk_q_kept, lk_q_holders, pr_q_holders, pgF_len])
local macro_rules | `(tactic| walk_at "gc") => `(tactic| first | refine cnd_t (decide_eq_true (by omega)) ?_ | refine cnd_f (decide_eq_false (by omega)) ?_)
local macro_rules | `(tactic| walk_at "gw") => `(tactic| (walk_at "gs"; repeat (walk_at "gc"; walk_at "gs")))
local macro_rules | `(tactic| walk_at "gv") => `(tactic| (walk_at "gs"; repeat ((first | refine ap_room ?_ | refine ap_sides ?_ | refine ap_first ?_ | refine ap_strides ?_); walk_at "gs")))
local macro_rules | `(tactic| walk_at "gu") => `(tactic| (walk_at "gv"; repeat (walk_at "gc"; walk_at "gv")))
local macro_rules | `(tactic| walk_at "gh") => `(tactic| try simp -implicitDefEqProofs only [↓h_oP, ↓h_vr, ↓h_vI, ↓h_cnd, ↓h_eqR, ↓h_inR, ↓h_ap, ↓h_wLoop, ↓h_wComp, ↓h_gcd, ↓h_fldC, ↓h_stC, ↓h_stFC, ↓h_agC, ↓h_mtC, ↓h_exC, ↓h_lenC, ↓h_eqOR, ↓h_eqIR, ↓h_eqMR, ↓h_bmC, ↓h_apC, ↓x_skip, ↓x_seq, ↓x_asg, ↓x_asgT, ↓x_asgS, ↓x_asgD, ↓x_setIx, ↓x_setFld, ↓x_aug, ↓x_augFld, ↓x_ret, ↓x_ex, ↓x_ifS, ↓x_for, ↓x_brk, ↓x_bad, ↓x_badE, ↓x_cont, ↓x_ret0, ↓x_con, ↓x_var, ↓x_thaw, ↓x_cool, ↓x_maxD, ↓x_bin, ↓x_neg, ↓x_nt, ↓x_cmp, ↓x_chn, ↓x_an, ↓x_orr, ↓x_ife, ↓x_tup, ↓x_lst, ↓x_ix, ↓x_sl, ↓x_sl3, ↓x_srev, ↓x_fld, ↓x_call, ↓x_callk, ↓x_newk, ↓x_lrng, ↓x_lnrg, ↓x_lenI, ↓x_cmpO, ↓x_cmpM, ↓x_cmpI, ↓x_lenL, ↓x_lenA, ↓x_lenT, ↓x_lenO, ↓x_lenR, ↓x_lenCi, ↓x_lenCl, ↓x_lenCf, ↓x_new, ↓x_mth, ↓x_blt, ↓x_bm, ↓x_isi, ↓x_lc, ↓x_lc2, ↓x_yes, ↓x_val, ↓x_ntB, ↓x_anB, ↓x_orB, ↓x_oN, ↓x_oS, ↓x_nil, ↓x_cons, ↓x_ival, ↓x_rng1, ↓x_rng2, ↓x_rng3, ↓x_enum, ↓x_enumz, ↓x_zip, ↓x_rev, ↓x_oPs, ↓x_vrs, ↓x_vIs, ↓x_inI, ↓x_inB, ↓x_inV, ↓x_toI, ↓x_toIb, ↓x_toB, ↓x_toBb, ↓x_cT, ↓x_cF, ↓x_cN, ↓x_thwA, ↓x_thwV, ↓x_adV, ↓x_adA, ↓x_asN, ↓x_asV, ↓x_asA, ↓x_fldO, ↓x_ixN, ↓x_mthO, ↓x_bII, ↓x_bTI, ↓x_bTT, ↓x_blAA, ↓x_blAL, ↓x_bmA, ↓x_blLA, ↓x_blLL, ↓x_bmL, ↓x_blRA, ↓x_blRL, ↓x_blRR, ↓x_blAR, ↓x_blLR, ↓x_binIp, ↓x_binIs, ↓x_binIm, ↓x_binId, ↓x_binIr, ↓x_binAp, ↓x_binAs, ↓x_binAm, ↓x_binAd, ↓x_binAr, ↓x_binIw, ↓x_lt, ↓x_le, ↓x_gt, ↓x_ge, ↓x_eq, ↓x_ne, ↓x_is, ↓x_isn, ↓x_in, ↓x_nin, ↓x_eqI, ↓x_eqT, ↓x_oInt, ↓x_iInt, ↓x_oBl, ↓x_iBl, ↓x_oNon, ↓x_iNon, ↓x_oTup, ↓x_iTup, ↓x_oLst, ↓x_iLst, ↓x_oAl, ↓x_iAl, ↓x_oStr, ↓x_iStr, ↓x_ixR, ↓x_slT, ↓x_slA, ↓x_slL, ↓x_slR, ↓x_sl3R, ↓x_partI, ↓x_partN, ↓x_hdC, ↓x_srT, ↓x_srA, ↓x_srL, ↓x_srR, ↓x_len, ↓x_abs, ↓x_min, ↓x_max, ↓x_min1, ↓x_max1, ↓x_sum, ↓x_all, ↓x_any, ↓x_int, ↓x_bool, ↓x_list, ↓x_tuple, ↓x_dm, ↓x_fldR0, ↓x_fldC, ↓x_stIx0, ↓x_stC, ↓x_stFld0, ↓x_stFC, ↓x_agFld0, ↓x_agC, ↓x_mth0, ↓x_mtC, ↓x_apd0, ↓x_bm_remove, ↓x_bm_pop, ↓x_bm_insert, ↓x_bm_reverse, ↓x_bm_clear, ↓x_bmCl, ↓x_cnt, ↓x_idxm, ↓x_bmK, ↓x_ext0, ↓x_exC, ↓x_apC, Bool.true_xor, Bool.false_xor, bfRm, bfP0, bfP1, bfIn, bfRv, bfCl, sqT, sqL, sqA, lsL, lsA, lmL, lmA, lmR, lmCl, cvT, cvF, arN, arP, arK, arD, lkHit, tpTv, tpT, tpL, tpA, tpR, trN, trB, trI, trT, trL, trA, itN, itB, itI, itS, itT, itL, itA, itO, sqR, lsR, lsCl, lsCf, trR, trCl, trCf, itR, itCl, itCf, itCi, gv0, gvS, sv0, svS, uv0, uvS, svsN, svsC, uvsN, uvsC, wGn, wGt, wGsN, wGsC, ctNn, ctNt, ctNsN, ctNsC, st0E, isNN, isBN, isIN, isSN, isTN, isLN, isON, isRN, isAN, isBB, at0, ix0, at1, ix1, at2, ix2, at3, ix3, at4, ix4, at5, ix5, at6, ix6, at7, ix7, atI_map, lkRV, sz0, sz1, sz2, sz3, sz4, sz5, sz6, sz7, sz8, sz9, sz10, sz11, sz12, sz13, sz14, sz15, sz16, ↓hid_val, enum_map, zip_map, rev_map, List.map_cons, List.map_nil, List.length_cons, List.length_nil, List.length_map, List.replicate_succ, List.replicate_zero, List.cons_append, List.nil_append, List.append_nil, Option.bind_some, Option.map_some, Option.isSome_some, Option.isSome_none, reduceCtorEq, Nat.reduceAdd, Nat.reduceSub, Nat.reduceMul, ite_true, ite_false, if_true, if_false, Bool.not_true, Bool.not_false, Bool.not_not, decide_true, decide_false, Bool.false_eq_true, and_true, true_and, len_concat, set_concat, List.set_cons_zero, List.set_cons_succ, List.getD_cons_zero, List.getD_cons_succ, List.take_succ_cons, List.take_zero, List.drop_succ_cons, List.drop_zero, List.getElem?_cons_zero, List.getElem?_cons_succ, ints_map, ints_map', bls_map, or_self, false_or, or_false, true_or, or_true, Nat.zero_add, List.isEmpty_cons, List.isEmpty_nil, lk_rF_many, lk_rF_width, lk_rF_pages, lk_rF_copies, lk_rF_shuts, lk_rF_read, lk_rF_write, lk_rF_need, lk_rF_numbers, lk_rF_own_page, lk_rF_twin, lk_rF_copied, lk_rF_is_shut, lk_rF_shared, lk_pF_kept, lk_pF_holders, lk_vF_held, lk_vF_lengths, lk_vF_begin, lk_vF_steps, lk_vF_tell, lk_vF_room, lk_vF_sides, lk_vF_first, lk_vF_strides, lk_vF_cells, lk_vF_cell, lk_vF_at, lk_vF_put, lk_vF_numbers, lk_vF_nested, lk_vF_twin, lk_vF_copy_of, lk_pZ_kept, lk_pZ_holders, lk_vZ_held, lk_vZ_lengths, lk_vZ_begin, lk_vZ_steps, lk_vZ_tell, lk_vZ_room, lk_vZ_sides, lk_vZ_first, lk_vZ_strides, lk_vZ_cells, lk_vZ_cell, lk_vZ_at, lk_vZ_put, lk_vZ_numbers, lk_vZ_nested, lk_vZ_twin, lk_vZ_copy_of, pt_p_kept, pu_p_kept, pt_p_holders, pu_p_holders, pt_r_many, pu_r_many, pt_r_width, pu_r_width, pt_r_pages, pu_r_pages, pt_r_copies, pu_r_copies, pt_r_shuts, pu_r_shuts, pt_v_held, pu_v_held, pt_v_lengths, pu_v_lengths, pt_v_begin, pu_v_begin, pt_v_steps, pu_v_steps, pr_many, pr_width, pr_pages, pr_copies, pr_shuts, rF_len, List.mem_cons, List.mem_singleton, List.not_mem_nil, Nat.reduceLT, lk_v1_tell, List.set_set, List.getElem?_set_self, get_mid, get_mid2, eq_self, lk_q_kept, lk_q_holders, pr_q_holders, pgF_len, *])
def pgCells (c : Cn) : Nat → List (List Int) → CH
  | _, [] => []
  | n, x :: r => .lst (x.map .int) :: .ins c.Page (pgF n 1) :: pgCells c (n + 2) r
theorem pgC_len {c : Cn} : ∀ {l : List (List Int)} {n : Nat}, (pgCells c n l).length = 2 * l.length
  | [], _ => rfl
  | x :: r, n => by show (pgCells c (n + 2) r).length + 1 + 1 = _; rw [pgC_len, List.length_cons]; omega
theorem pgC_snoc {c : Cn} {x : List Int} : ∀ {l : List (List Int)} {n : Nat}, pgCells c n (l ++ [x]) = pgCells c n l ++ [.lst (x.map .int), .ins c.Page (pgF (n + 2 * l.length) 1)]
  | [], n => rfl
  | y :: r, n => by
    show _ :: _ :: pgCells c (n + 2) (r ++ [x]) = _
    rw [pgC_snoc, show n + 2 + 2 * r.length = n + 2 * (y :: r).length by rw [List.length_cons]; omega]
    rfl
theorem pgC_get {c : Cn} : ∀ {l : List (List Int)} {n i : Nat} {x : List Int}, l[i]? = some x → (pgCells c n l)[2 * i]? = some (.lst (x.map .int)) ∧ (pgCells c n l)[2 * i + 1]? = some (.ins c.Page (pgF (n + 2 * i) 1))
  | y :: r, n, 0, x, h => by cases h; exact ⟨rfl, rfl⟩
  | y :: r, n, i + 1, x, h => by
    have := pgC_get (c := c) (n := n + 2) (show r[i]? = some x from h)
    rw [show 2 * (i + 1) = 2 * i + 1 + 1 by omega]
    show (pgCells c (n + 2) r)[2 * i]? = _ ∧ (pgCells c (n + 2) r)[2 * i + 1]? = _
    rw [show n + (2 * i + 1 + 1) = n + 2 + 2 * i by omega]
    exact this
theorem pgC_cl {c : Cn} : ∀ {l : List (List Int)} {n m : Nat}, n + 2 * l.length ≤ m → ∀ o ∈ pgCells c n l, clO m o
  | [], _, _, _, o, h => by cases h
  | x :: r, n, m, l, o, h => by
    rw [List.length_cons] at l
    rcases List.mem_cons.mp h with rfl | h
    · exact cl_ints
    · rcases List.mem_cons.mp h with rfl | h
      · exact clO_pg (by omega)
      · exact pgC_cl (l := r) (n := n + 2) (by omega) o h
def newRefs (n k : Nat) : List Nat := (List.range k).map fun i => n + 2 * i + 1
def newRoomH (c : Cn) (h : CH) (a : Nat) (ns : List Int) (w : Nat) : CH :=
  (h ++ pgCells c h.length (chunk w ns) ++ [CO.lst ((newRefs h.length (chunk w ns).length).map .ref)]).set a (.ins c.Room (rF ns.length w (.ref (h.length + 2 * (chunk w ns).length)) 0 0))
def sp_Room_init (c : Cn) : Spec := fun cs h k _ => ∃ (a : Nat) (v : CV) (ns : List Int) (w : Nat), cs = [.ref a, v, .int w] ∧ h[a]? = some (.ins c.Room []) ∧ sqOf (.v v) h = some (ns.map .int) ∧ 0 < w ∧ w < 2 ^ 29 ∧ ns.length ≤ 2 ^ 20 ∧ k (.v .non) (newRoomH c h a ns w)
theorem slice_any {v : CV} {h : CH} {xs : List CV} {lo hi : Option Int} {K : WQ} (hv : sqOf (.v v) h = some xs) (q : ∀ x, sqOf x h = some (cutC xs lo hi) → K x h) : slR (.v v) lo hi h K := by
  cases v with
  | tup ys => cases hv; exact q _ rfl
  | lst ys => cases hv; exact q _ rfl
  | ref l =>
    have e : lsOf (.v (.ref l)) h = some xs := hv
    show oP (lsOf (.v (.ref l)) h) _
    rw [e]; exact q _ rfl
  | _ => cases hv
theorem sq_fr {v : CV} {h h' : CH} {xs : List CV} (hv : sqOf (.v v) h = some xs) (e : ∀ (a : Nat) (ys : List CV), (h[a]? = some (CO.lst ys) ∨ h[a]? = some (CO.fro ys)) → h'[a]? = h[a]?) : sqOf (.v v) h' = some xs := by
  cases v with
  | ref l =>
    have q : (match h[l]? with | some (.lst xs) => some xs | some (.fro xs) => some xs | _ => none) = some xs := hv
    show (match h'[l]? with | some (.lst xs) => some xs | some (.fro xs) => some xs | _ => none) = some xs
    cases hl : h[l]? with
    | none => rw [hl] at q; cases q
    | some x => cases x with
      | lst ys => rw [e l ys (.inl hl), hl]; rw [hl] at q; exact q
      | fro ys => rw [e l ys (.inr hl), hl]; rw [hl] at q; exact q
      | ins C fs => rw [hl] at q; cases q
  | tup ys => exact hv
  | lst ys => exact hv
  | _ => cases hv
/-- Room.__init__: 0 self, 1 numbers, 2 page, 3 at -/
def ir_Room_init (c : Cn) : CS := .seq (.setFld (.var 0) "many" [c.Room] (.blt .len (.cons (.var 1) (.nil)))) (.seq (.setFld (.var 0) "width" [c.Room] (.var 2)) (.seq (.setFld (.var 0) "pages" [c.Room] (.thaw (.lc [3] (.name 3) (.rng3 (.con (.int 0)) (.blt .len (.cons (.var 1) (.nil))) (.var 2)) (.yes) (.new c.Page (sp_Page_init c) 2 [] (.cons (.thaw (.blt .list (.cons (.sl (.var 1) (.some (.var 3)) (.some (.bin .Add (.var 3) (.var 2)))) (.nil)))) (.nil)))))) (.seq (.setFld (.var 0) "copies" [c.Room] (.con (.int 0))) (.setFld (.var 0) "shuts" [c.Room] (.con (.int 0))))))
theorem w_Room_init (c : Cn) : ∀ cs h k E, sp_Room_init c cs h k E → cs.length = 3 → clH h → clVs h.length cs → wS (ir_Room_init c) (ret0 h k E) (st0 4 cs) h := by
  rintro _ h k E ⟨a, v, ns, w, rfl, ha, hv, w0, w1, sz, hk⟩ _ hc _
  unfold ir_Room_init
  have lt := (List.getElem?_eq_some_iff.mp ha).1
  have hs : ∀ o, (h.set a o)[a]? = some o := fun o => List.getElem?_set_self lt
  have ss : ∀ o o', (h.set a o).set a o' = h.set a o' := fun o o' => List.set_set ..
  have hsq : ∀ x g, sqOf (.v v) (h.set a x ++ g) = some (ns.map .int) := fun x g => sq_fr hv fun b ys hb => by
    have ne : a ≠ b := fun e => by rw [← e, ha] at hb; simp at hb
    have lb : b < h.length := by rcases hb with hb | hb <;> exact (List.getElem?_eq_some_iff.mp hb).1
    rw [List.getElem?_append_left (by rw [List.length_set]; exact lb), List.getElem?_set_ne ne]
  have hsq0 : ∀ x, sqOf (.v v) (h.set a x) = some (ns.map .int) := fun x => by have := hsq x []; rwa [List.append_nil] at this
  walk_at "gh"
  have en : (((ns.length : Int) - 0 + ((w : Int) - 1)) / (w : Int)).toNat = (chunk w ns).length := by
    rw [show ((ns.length : Int) - 0 + ((w : Int) - 1)) = ((ns.length + (w - 1) : Nat) : Int) by omega, chunk_len]
    rfl
  rw [en]
  have hm : (chunk w ns).length ≤ ns.length := by
    rw [chunk_len, Nat.div_le_iff_le_mul_add_pred w0]
    have := Nat.le_mul_of_pos_left ns.length w0
    omega
  obtain ⟨X, hX⟩ : ∃ X, X = CO.ins c.Room [(Str.ofString "many", CV.int ns.length), (Str.ofString "width", CV.int w)] := ⟨_, rfl⟩
  rw [← hX]
  have eX : (h.set a X).length = h.length := by simp
  have hr : (newRefs h.length (chunk w ns).length).map CV.ref = (List.range (chunk w ns).length).map fun i => CV.ref (h.length + 2 * i + 1) := by simp [newRefs, Function.comp_def]
  refine ⟨by omega, by have : sizeLine = 2 ^ 24 := rfl; simp; omega, comp_map (fun d acc h' => h' = h.set a X ++ pgCells c h.length ((chunk w ns).take d.length) ∧ acc = (List.range d.length).map fun i => CV.ref (h.length + 2 * i + 1)) ⟨by simp [pgCells], rfl⟩ (fun _ _ _ _ _ _ => trivial) ?_ ?_⟩
  · rintro d q r2 _ _ ed ⟨rfl, rfl⟩
    have hq : q = d.length := by
      have := congrArg (fun l => l[d.length]?) ed
      have l : d.length < (chunk w ns).length := by have := congrArg List.length ed; simp at this; omega
      simp [l] at this; omega
    subst hq
    have lq : d.length < (chunk w ns).length := by have := congrArg List.length ed; simp at this; omega
    have lq2 : d.length < (ns.length + (w - 1)) / w := by rwa [chunk_len] at lq
    have ec : cutC (ns.map CV.int) (some (0 + (d.length : Int) * (w : Int))) (some (0 + (d.length : Int) * (w : Int) + (w : Int))) = ((ns.drop (d.length * w)).take w).map CV.int := by
      rw [show (0 + (d.length : Int) * (w : Int)) = ((d.length * w : Nat) : Int) by simp, show (((d.length * w : Nat) : Int) + (w : Int)) = ((d.length * w + w : Nat) : Int) by simp]
      exact cut_range CV.int ns _ _
    have et : (chunk w ns).take (d.length + 1) = (chunk w ns).take d.length ++ [(ns.drop (d.length * w)).take w] := by
      rw [List.take_add_one]
      congr 1
      unfold chunk
      rw [List.getElem?_map, List.getElem?_range lq2]
      rfl
    walk_at "gh"
    refine slice_any (hsq _ _) fun x hx => ?_
    rw [ec] at hx
    refine oP_mk hx ?_
    walk_at "gh"
    refine ⟨_, _, rfl, len_concat, ?_⟩
    rw [set_concat]
    walk_at "gh"
    have lt2 : ((chunk w ns).take d.length).length = d.length := by rw [List.length_take]; omega
    rw [show (d ++ [d.length]).length = d.length + 1 by simp, et, pgC_snoc, lt2, List.range_succ, List.map_append]
    refine ⟨?_, ?_⟩
    · rw [List.length_append, List.length_set, pgC_len, lt2, List.append_assoc, List.append_assoc]; rfl
    · rw [List.length_append, List.length_append, List.length_set, pgC_len, lt2]; rfl
  · rintro _ _ ⟨rfl, rfl⟩
    rw [List.length_range, List.take_length]
    have hk2 := hk
    unfold newRoomH at hk2
    rw [hr, List.append_assoc] at hk2
    rw [List.set_append_left _ _ lt] at hk2
    have e0 : ∀ x (g : CH), (h.set a x ++ g).set a = fun y => h.set a y ++ g := fun x g => by funext y; rw [List.set_append_left _ _ (by rw [List.length_set]; exact lt), List.set_set]
    have e1 : ∀ x (g : CH), (h.set a x ++ g)[a]? = some x := fun x g => by rw [List.getElem?_append_left (by rw [List.length_set]; exact lt), List.getElem?_set_self lt]
    have e3 : (h.set a X ++ pgCells c h.length (chunk w ns)).length = h.length + 2 * (chunk w ns).length := by rw [List.length_append, List.length_set, pgC_len]
    have e4 : ∀ r, h.set a X ++ pgCells c h.length (chunk w ns) ++ [CO.lst r] = h.set a X ++ (pgCells c h.length (chunk w ns) ++ [CO.lst r]) := fun r => by rw [List.append_assoc]
    walk_at "gh"
    rw [← hX, e4, e3]
    obtain ⟨g, hg⟩ : ∃ g, g = pgCells c h.length (chunk w ns) ++ [CO.lst ((List.range (chunk w ns).length).map fun i => CV.ref (h.length + 2 * i + 1))] := ⟨_, rfl⟩
    rw [← hg] at hk2 ⊢
    have e5 : ∀ x y, (h.set a x ++ g).set a y = h.set a y ++ g := fun x y => by rw [e0]
    clear e0 e4 hsq hsq0 hg
    rw [hX]
    clear hX
    walk_at "gh"
    exact gc_same hk2
end G

namespace G
open PySem PySem.Spec PyProof.Rows L2
local macro_rules | `(tactic| walk_at "gs") => `(tactic| try simp -implicitDefEqProofs only [↓h_oP, ↓h_vr, ↓h_vI, ↓h_cnd, ↓h_eqR, ↓h_inR, ↓h_ap, ↓h_wLoop, ↓h_wComp, ↓h_gcd, ↓h_fldC, ↓h_stC, ↓h_stFC, ↓h_agC, ↓h_mtC, ↓h_exC, ↓h_lenC, ↓h_eqOR, ↓h_eqIR, ↓h_eqMR, ↓h_bmC, ↓h_apC, ↓x_skip, ↓x_seq, ↓x_asg, ↓x_asgT, ↓x_asgS, ↓x_asgD, ↓x_setIx, ↓x_setFld, ↓x_aug, ↓x_augFld, ↓x_ret, ↓x_ex, ↓x_ifS, ↓x_for, ↓x_brk, ↓x_bad, ↓x_badE, ↓x_cont, ↓x_ret0, ↓x_con, ↓x_var, ↓x_thaw, ↓x_cool, ↓x_maxD, ↓x_bin, ↓x_neg, ↓x_nt, ↓x_cmp, ↓x_chn, ↓x_an, ↓x_orr, ↓x_ife, ↓x_tup, ↓x_lst, ↓x_ix, ↓x_sl, ↓x_sl3, ↓x_srev, ↓x_fld, ↓x_call, ↓x_callk, ↓x_newk, ↓x_lrng, ↓x_lnrg, ↓x_lenI, ↓x_cmpO, ↓x_cmpM, ↓x_cmpI, ↓x_lenL, ↓x_lenA, ↓x_lenT, ↓x_lenO, ↓x_lenR, ↓x_lenCi, ↓x_lenCl, ↓x_lenCf, ↓x_new, ↓x_mth, ↓x_blt, ↓x_bm, ↓x_isi, ↓x_lc, ↓x_lc2, ↓x_yes, ↓x_val, ↓x_ntB, ↓x_anB, ↓x_orB, ↓x_oN, ↓x_oS, ↓x_nil, ↓x_cons, ↓x_ival, ↓x_rng1, ↓x_rng2, ↓x_rng3, ↓x_enum, ↓x_enumz, ↓x_zip, ↓x_rev, ↓x_oPs, ↓x_vrs, ↓x_vIs, ↓x_inI, ↓x_inB, ↓x_inV, ↓x_toI, ↓x_toIb, ↓x_toB, ↓x_toBb, ↓x_cT, ↓x_cF, ↓x_cN, ↓x_thwA, ↓x_thwV, ↓x_adV, ↓x_adA, ↓x_asN, ↓x_asV, ↓x_asA, ↓x_fldO, ↓x_ixN, ↓x_mthO, ↓x_bII, ↓x_bTI, ↓x_bTT, ↓x_blAA, ↓x_blAL, ↓x_bmA, ↓x_blLA, ↓x_blLL, ↓x_bmL, ↓x_blRA, ↓x_blRL, ↓x_blRR, ↓x_blAR, ↓x_blLR, ↓x_binIp, ↓x_binIs, ↓x_binIm, ↓x_binId, ↓x_binIr, ↓x_binAp, ↓x_binAs, ↓x_binAm, ↓x_binAd, ↓x_binAr, ↓x_binIw, ↓x_lt, ↓x_le, ↓x_gt, ↓x_ge, ↓x_eq, ↓x_ne, ↓x_is, ↓x_isn, ↓x_in, ↓x_nin, ↓x_eqI, ↓x_eqT, ↓x_oInt, ↓x_iInt, ↓x_oBl, ↓x_iBl, ↓x_oNon, ↓x_iNon, ↓x_oTup, ↓x_iTup, ↓x_oLst, ↓x_iLst, ↓x_oAl, ↓x_iAl, ↓x_oStr, ↓x_iStr, ↓x_ixR, ↓x_slT, ↓x_slA, ↓x_slL, ↓x_slR, ↓x_sl3R, ↓x_partI, ↓x_partN, ↓x_hdC, ↓x_srT, ↓x_srA, ↓x_srL, ↓x_srR, ↓x_len, ↓x_abs, ↓x_min, ↓x_max, ↓x_min1, ↓x_max1, ↓x_sum, ↓x_all, ↓x_any, ↓x_int, ↓x_bool, ↓x_list, ↓x_tuple, ↓x_dm, ↓x_fldR0, ↓x_fldC, ↓x_stIx0, ↓x_stC, ↓x_stFld0, ↓x_stFC, ↓x_agFld0, ↓x_agC, ↓x_mth0, ↓x_mtC, ↓x_apd0, ↓x_bm_remove, ↓x_bm_pop, ↓x_bm_insert, ↓x_bm_reverse, ↓x_bm_clear, ↓x_bmCl, ↓x_cnt, ↓x_idxm, ↓x_bmK, ↓x_ext0, ↓x_exC, ↓x_apC, Bool.true_xor, Bool.false_xor, bfRm, bfP0, bfP1, bfIn, bfRv, bfCl, sqT, sqL, sqA, lsL, lsA, lmL, lmA, lmR, lmCl, cvT, cvF, arN, arP, arK, arD, lkHit, tpTv, tpT, tpL, tpA, tpR, trN, trB, trI, trT, trL, trA, itN, itB, itI, itS, itT, itL, itA, itO, sqR, lsR, lsCl, lsCf, trR, trCl, trCf, itR, itCl, itCf, itCi, gv0, gvS, sv0, svS, uv0, uvS, svsN, svsC, uvsN, uvsC, wGn, wGt, wGsN, wGsC, ctNn, ctNt, ctNsN, ctNsC, st0E, isNN, isBN, isIN, isSN, isTN, isLN, isON, isRN, isAN, isBB, at0, ix0, at1, ix1, at2, ix2, at3, ix3, at4, ix4, at5, ix5, at6, ix6, at7, ix7, atI_map, lkRV, sz0, sz1, sz2, sz3, sz4, sz5, sz6, sz7, sz8, sz9, sz10, sz11, sz12, sz13, sz14, sz15, sz16, ↓hid_val, enum_map, zip_map, rev_map, List.map_cons, List.map_nil, List.length_cons, List.length_nil, List.length_map, List.replicate_succ, List.replicate_zero, List.cons_append, List.nil_append, List.append_nil, Option.bind_some, Option.map_some, Option.isSome_some, Option.isSome_none, reduceCtorEq, Nat.reduceAdd, Nat.reduceSub, Nat.reduceMul, ite_true, ite_false, if_true, if_false, Bool.not_true, Bool.not_false, Bool.not_not, decide_true, decide_false, Bool.false_eq_true, and_true, true_and, len_concat, set_concat, List.set_cons_zero, List.set_cons_succ, List.getD_cons_zero, List.getD_cons_succ, List.take_succ_cons, List.take_zero, List.drop_succ_cons, List.drop_zero, List.getElem?_cons_zero, List.getElem?_cons_succ, ints_map, ints_map', bls_map, or_self, false_or, or_false, true_or, or_true, Nat.zero_add, List.isEmpty_cons, List.isEmpty_nil, lk_rF_many, lk_rF_width, lk_rF_pages, lk_rF_copies, lk_rF_shuts, lk_rF_read, lk_rF_write, lk_rF_need, lk_rF_numbers, lk_rF_own_page, lk_rF_twin, lk_rF_copied, lk_rF_is_shut, lk_rF_shared, lk_pF_kept, lk_pF_holders, lk_vF_held, lk_vF_lengths, lk_vF_begin, lk_vF_steps, lk_vF_tell, lk_vF_room, lk_vF_sides, lk_vF_first, lk_vF_strides, lk_vF_cells, lk_vF_cell, lk_vF_at, lk_vF_put, lk_vF_numbers, lk_vF_nested, lk_vF_twin, lk_vF_copy_of, lk_pZ_kept, lk_pZ_holders, lk_vZ_held, lk_vZ_lengths, lk_vZ_begin, lk_vZ_steps, lk_vZ_tell, lk_vZ_room, lk_vZ_sides, lk_vZ_first, lk_vZ_strides, lk_vZ_cells, lk_vZ_cell, lk_vZ_at, lk_vZ_put, lk_vZ_numbers, lk_vZ_nested, lk_vZ_twin, lk_vZ_copy_of, pt_p_kept, pu_p_kept, pt_p_holders, pu_p_holders, pt_r_many, pu_r_many, pt_r_width, pu_r_width, pt_r_pages, pu_r_pages, pt_r_copies, pu_r_copies, pt_r_shuts, pu_r_shuts, pt_v_held, pu_v_held, pt_v_lengths, pu_v_lengths, pt_v_begin, pu_v_begin, pt_v_steps, pu_v_steps, pr_many, pr_width, pr_pages, pr_copies, pr_shuts, rF_len, List.mem_cons, List.mem_singleton, List.not_mem_nil, Nat.reduceLT, lk_v1_tell, List.set_set, List.getElem?_set_self, get_mid, get_mid2, eq_self, lk_q_kept, lk_q_holders, pr_q_holders, pgF_len])
local macro_rules | `(tactic| walk_at "gc") => `(tactic| first | refine cnd_t (decide_eq_true (by omega)) ?_ | refine cnd_f (decide_eq_false (by omega)) ?_)
local macro_rules | `(tactic| walk_at "gw") => `(tactic| (walk_at "gs"; repeat (walk_at "gc"; walk_at "gs")))
local macro_rules | `(tactic| walk_at "gv") => `(tactic| (walk_at "gs"; repeat ((first | refine ap_room ?_ | refine ap_sides ?_ | refine ap_first ?_ | refine ap_strides ?_); walk_at "gs")))
local macro_rules | `(tactic| walk_at "gu") => `(tactic| (walk_at "gv"; repeat (walk_at "gc"; walk_at "gv")))
local macro_rules | `(tactic| walk_at "gh") => `(tactic| try simp -implicitDefEqProofs only [↓h_oP, ↓h_vr, ↓h_vI, ↓h_cnd, ↓h_eqR, ↓h_inR, ↓h_ap, ↓h_wLoop, ↓h_wComp, ↓h_gcd, ↓h_fldC, ↓h_stC, ↓h_stFC, ↓h_agC, ↓h_mtC, ↓h_exC, ↓h_lenC, ↓h_eqOR, ↓h_eqIR, ↓h_eqMR, ↓h_bmC, ↓h_apC, ↓x_skip, ↓x_seq, ↓x_asg, ↓x_asgT, ↓x_asgS, ↓x_asgD, ↓x_setIx, ↓x_setFld, ↓x_aug, ↓x_augFld, ↓x_ret, ↓x_ex, ↓x_ifS, ↓x_for, ↓x_brk, ↓x_bad, ↓x_badE, ↓x_cont, ↓x_ret0, ↓x_con, ↓x_var, ↓x_thaw, ↓x_cool, ↓x_maxD, ↓x_bin, ↓x_neg, ↓x_nt, ↓x_cmp, ↓x_chn, ↓x_an, ↓x_orr, ↓x_ife, ↓x_tup, ↓x_lst, ↓x_ix, ↓x_sl, ↓x_sl3, ↓x_srev, ↓x_fld, ↓x_call, ↓x_callk, ↓x_newk, ↓x_lrng, ↓x_lnrg, ↓x_lenI, ↓x_cmpO, ↓x_cmpM, ↓x_cmpI, ↓x_lenL, ↓x_lenA, ↓x_lenT, ↓x_lenO, ↓x_lenR, ↓x_lenCi, ↓x_lenCl, ↓x_lenCf, ↓x_new, ↓x_mth, ↓x_blt, ↓x_bm, ↓x_isi, ↓x_lc, ↓x_lc2, ↓x_yes, ↓x_val, ↓x_ntB, ↓x_anB, ↓x_orB, ↓x_oN, ↓x_oS, ↓x_nil, ↓x_cons, ↓x_ival, ↓x_rng1, ↓x_rng2, ↓x_rng3, ↓x_enum, ↓x_enumz, ↓x_zip, ↓x_rev, ↓x_oPs, ↓x_vrs, ↓x_vIs, ↓x_inI, ↓x_inB, ↓x_inV, ↓x_toI, ↓x_toIb, ↓x_toB, ↓x_toBb, ↓x_cT, ↓x_cF, ↓x_cN, ↓x_thwA, ↓x_thwV, ↓x_adV, ↓x_adA, ↓x_asN, ↓x_asV, ↓x_asA, ↓x_fldO, ↓x_ixN, ↓x_mthO, ↓x_bII, ↓x_bTI, ↓x_bTT, ↓x_blAA, ↓x_blAL, ↓x_bmA, ↓x_blLA, ↓x_blLL, ↓x_bmL, ↓x_blRA, ↓x_blRL, ↓x_blRR, ↓x_blAR, ↓x_blLR, ↓x_binIp, ↓x_binIs, ↓x_binIm, ↓x_binId, ↓x_binIr, ↓x_binAp, ↓x_binAs, ↓x_binAm, ↓x_binAd, ↓x_binAr, ↓x_binIw, ↓x_lt, ↓x_le, ↓x_gt, ↓x_ge, ↓x_eq, ↓x_ne, ↓x_is, ↓x_isn, ↓x_in, ↓x_nin, ↓x_eqI, ↓x_eqT, ↓x_oInt, ↓x_iInt, ↓x_oBl, ↓x_iBl, ↓x_oNon, ↓x_iNon, ↓x_oTup, ↓x_iTup, ↓x_oLst, ↓x_iLst, ↓x_oAl, ↓x_iAl, ↓x_oStr, ↓x_iStr, ↓x_ixR, ↓x_slT, ↓x_slA, ↓x_slL, ↓x_slR, ↓x_sl3R, ↓x_partI, ↓x_partN, ↓x_hdC, ↓x_srT, ↓x_srA, ↓x_srL, ↓x_srR, ↓x_len, ↓x_abs, ↓x_min, ↓x_max, ↓x_min1, ↓x_max1, ↓x_sum, ↓x_all, ↓x_any, ↓x_int, ↓x_bool, ↓x_list, ↓x_tuple, ↓x_dm, ↓x_fldR0, ↓x_fldC, ↓x_stIx0, ↓x_stC, ↓x_stFld0, ↓x_stFC, ↓x_agFld0, ↓x_agC, ↓x_mth0, ↓x_mtC, ↓x_apd0, ↓x_bm_remove, ↓x_bm_pop, ↓x_bm_insert, ↓x_bm_reverse, ↓x_bm_clear, ↓x_bmCl, ↓x_cnt, ↓x_idxm, ↓x_bmK, ↓x_ext0, ↓x_exC, ↓x_apC, Bool.true_xor, Bool.false_xor, bfRm, bfP0, bfP1, bfIn, bfRv, bfCl, sqT, sqL, sqA, lsL, lsA, lmL, lmA, lmR, lmCl, cvT, cvF, arN, arP, arK, arD, lkHit, tpTv, tpT, tpL, tpA, tpR, trN, trB, trI, trT, trL, trA, itN, itB, itI, itS, itT, itL, itA, itO, sqR, lsR, lsCl, lsCf, trR, trCl, trCf, itR, itCl, itCf, itCi, gv0, gvS, sv0, svS, uv0, uvS, svsN, svsC, uvsN, uvsC, wGn, wGt, wGsN, wGsC, ctNn, ctNt, ctNsN, ctNsC, st0E, isNN, isBN, isIN, isSN, isTN, isLN, isON, isRN, isAN, isBB, at0, ix0, at1, ix1, at2, ix2, at3, ix3, at4, ix4, at5, ix5, at6, ix6, at7, ix7, atI_map, lkRV, sz0, sz1, sz2, sz3, sz4, sz5, sz6, sz7, sz8, sz9, sz10, sz11, sz12, sz13, sz14, sz15, sz16, ↓hid_val, enum_map, zip_map, rev_map, List.map_cons, List.map_nil, List.length_cons, List.length_nil, List.length_map, List.replicate_succ, List.replicate_zero, List.cons_append, List.nil_append, List.append_nil, Option.bind_some, Option.map_some, Option.isSome_some, Option.isSome_none, reduceCtorEq, Nat.reduceAdd, Nat.reduceSub, Nat.reduceMul, ite_true, ite_false, if_true, if_false, Bool.not_true, Bool.not_false, Bool.not_not, decide_true, decide_false, Bool.false_eq_true, and_true, true_and, len_concat, set_concat, List.set_cons_zero, List.set_cons_succ, List.getD_cons_zero, List.getD_cons_succ, List.take_succ_cons, List.take_zero, List.drop_succ_cons, List.drop_zero, List.getElem?_cons_zero, List.getElem?_cons_succ, ints_map, ints_map', bls_map, or_self, false_or, or_false, true_or, or_true, Nat.zero_add, List.isEmpty_cons, List.isEmpty_nil, lk_rF_many, lk_rF_width, lk_rF_pages, lk_rF_copies, lk_rF_shuts, lk_rF_read, lk_rF_write, lk_rF_need, lk_rF_numbers, lk_rF_own_page, lk_rF_twin, lk_rF_copied, lk_rF_is_shut, lk_rF_shared, lk_pF_kept, lk_pF_holders, lk_vF_held, lk_vF_lengths, lk_vF_begin, lk_vF_steps, lk_vF_tell, lk_vF_room, lk_vF_sides, lk_vF_first, lk_vF_strides, lk_vF_cells, lk_vF_cell, lk_vF_at, lk_vF_put, lk_vF_numbers, lk_vF_nested, lk_vF_twin, lk_vF_copy_of, lk_pZ_kept, lk_pZ_holders, lk_vZ_held, lk_vZ_lengths, lk_vZ_begin, lk_vZ_steps, lk_vZ_tell, lk_vZ_room, lk_vZ_sides, lk_vZ_first, lk_vZ_strides, lk_vZ_cells, lk_vZ_cell, lk_vZ_at, lk_vZ_put, lk_vZ_numbers, lk_vZ_nested, lk_vZ_twin, lk_vZ_copy_of, pt_p_kept, pu_p_kept, pt_p_holders, pu_p_holders, pt_r_many, pu_r_many, pt_r_width, pu_r_width, pt_r_pages, pu_r_pages, pt_r_copies, pu_r_copies, pt_r_shuts, pu_r_shuts, pt_v_held, pu_v_held, pt_v_lengths, pu_v_lengths, pt_v_begin, pu_v_begin, pt_v_steps, pu_v_steps, pr_many, pr_width, pr_pages, pr_copies, pr_shuts, rF_len, List.mem_cons, List.mem_singleton, List.not_mem_nil, Nat.reduceLT, lk_v1_tell, List.set_set, List.getElem?_set_self, get_mid, get_mid2, eq_self, lk_q_kept, lk_q_holders, pr_q_holders, pgF_len, *])
/-- a new room: at n, its cells from n + 1 on -/
def GW.new (W : GW) (n : Nat) (ns : List Int) (w : Nat) : GW where
  rs := W.rs ++ [⟨n, ns.length, w, n + 1 + 2 * (chunk w ns).length, newRefs (n + 1) (chunk w ns).length, 0, 0⟩]
  pg := fun q => if n < q then ⟨q - 1, ((chunk w ns)[(q - n - 2) / 2]?).getD [], 1⟩ else W.pg q
def newOwn (o : Own) (n k i : Nat) : Own := fun a => if a < n then o a else if a = n then some (0, i) else if a < n + 1 + 2 * k then (if (a - n) % 2 = 1 then some (3, a + 1) else some (2, a)) else if a = n + 1 + 2 * k then some (1, i) else none
theorem refs_get {n k i : Nat} (h : i < k) : (newRefs n k)[i]? = some (n + 2 * i + 1) := by unfold newRefs; rw [List.getElem?_map, List.getElem?_range h]; rfl
theorem refs_mem {n k q : Nat} : q ∈ newRefs n k ↔ ∃ i, i < k ∧ q = n + 2 * i + 1 := by
  unfold newRefs; simp only [List.mem_map, List.mem_range]
  constructor
  · rintro ⟨i, h, e⟩; exact ⟨i, h, e.symm⟩
  · rintro ⟨i, h, e⟩; exact ⟨i, h, e.symm⟩
theorem refs_nd {n k : Nat} : (newRefs n k).Nodup := List.Pairwise.map _ (fun a b h => by omega) (List.nodup_range (n := k))
theorem Wd.new {c : Cn} {h : CH} {W : GW} {o : Own} (w : Wd c h W o) {ns : List Int} {wd : Nat} (w0 : 0 < wd) (w1 : wd < 2 ^ 29) (sz : ns.length ≤ 2 ^ 20) (few : W.rs.length < 2 ^ 20) :
    Wd c (newRoomH c (h ++ [.ins c.Room []]) h.length ns wd) (W.new h.length ns wd) (newOwn o h.length (chunk wd ns).length W.rs.length) := by
  obtain ⟨n, hn⟩ : ∃ n, n = h.length := ⟨_, rfl⟩
  obtain ⟨k, hk⟩ : ∃ k, k = (chunk wd ns).length := ⟨_, rfl⟩
  obtain ⟨H, hH⟩ : ∃ H, H = newRoomH c (h ++ [.ins c.Room []]) h.length ns wd := ⟨_, rfl⟩
  obtain ⟨V, hV⟩ : ∃ V, V = W.new h.length ns wd := ⟨_, rfl⟩
  rw [← hH, ← hV, ← hk]
  rw [← hn] at hV hH ⊢
  have eH : H = h ++ (.ins c.Room (rF ns.length wd (.ref (n + 1 + 2 * k)) 0 0) :: (pgCells c (n + 1) (chunk wd ns) ++ [.lst ((newRefs (n + 1) k).map .ref)])) := by
    rw [hH]
    unfold newRoomH
    rw [List.length_append, List.length_singleton, ← hn, ← hk, List.append_assoc, List.append_assoc, hn, List.set_append_right _ _ (Nat.le_refl _), Nat.sub_self]
    rfl
  have len : H.length = n + 2 + 2 * k := by rw [eH]; simp [pgC_len]; omega
  have g0 : ∀ a, a < n → H[a]? = h[a]? := fun a l => by rw [eH, List.getElem?_append_left (by omega)]
  have g1 : H[n]? = some (.ins c.Room (rF ns.length wd (.ref (n + 1 + 2 * k)) 0 0)) := by rw [eH, List.getElem?_append_right (by omega), ← hn, Nat.sub_self]; rfl
  have g2 : H[n + 1 + 2 * k]? = some (.lst ((newRefs (n + 1) k).map .ref)) := by
    rw [eH, List.getElem?_append_right (by omega), ← hn, show n + 1 + 2 * k - n = 2 * k + 1 by omega, List.getElem?_cons_succ, List.getElem?_append_right (by rw [pgC_len]; omega), pgC_len, ← hk, Nat.sub_self]
    rfl
  have g3 : ∀ i x, (chunk wd ns)[i]? = some x → H[n + 1 + 2 * i]? = some (.lst (x.map .int)) ∧ H[n + 1 + 2 * i + 1]? = some (.ins c.Page (pgF (n + 1 + 2 * i) 1)) := fun i x hx => by
    have lx := (List.getElem?_eq_some_iff.mp hx).1
    have := pgC_get (c := c) (n := n + 1) hx
    rw [eH, List.getElem?_append_right (by omega), List.getElem?_append_right (by omega), ← hn, show n + 1 + 2 * i - n = 2 * i + 1 by omega, show n + 1 + 2 * i + 1 - n = (2 * i + 1) + 1 by omega, List.getElem?_cons_succ, List.getElem?_cons_succ, List.getElem?_append_left (by rw [pgC_len]; omega), List.getElem?_append_left (by rw [pgC_len]; omega)]
    exact this
  have Vrs : V.rs = W.rs ++ [⟨n, ns.length, wd, n + 1 + 2 * k, newRefs (n + 1) k, 0, 0⟩] := by rw [hV, hk]; rfl
  have Vold : ∀ q, q < n → V.pg q = W.pg q := fun q l => by rw [hV]; show (if n < q then _ else _) = _; rw [if_neg (by omega)]
  have Vnew : ∀ i x, (chunk wd ns)[i]? = some x → V.pg (n + 1 + 2 * i + 1) = ⟨n + 1 + 2 * i, x, 1⟩ := fun i x hx => by
    rw [hV]; show (if n < n + 1 + 2 * i + 1 then _ else _) = _
    rw [if_pos (by omega), show (n + 1 + 2 * i + 1 - n - 2) / 2 = i by omega, hx]; rfl
  have ltq : ∀ (j : Nat) (S : RG) (q : Nat), W.rs[j]? = some S → q ∈ S.ps → q < n := fun j S q hj hq => by rw [hn]; exact w.lt q (by rw [(w.pg j S q hj hq).op]; simp)
  have e1 : (newRefs (n + 1) k).map (fun p => (V.pg p).ns) = chunk wd ns := by
    apply List.ext_getElem?
    intro i
    rw [List.getElem?_map]
    by_cases l : i < k
    · have hx := List.getElem?_eq_getElem (show i < (chunk wd ns).length by omega)
      rw [refs_get l, hx]
      show some (V.pg (n + 1 + 2 * i + 1)).ns = _
      rw [Vnew i _ hx]
    · rw [List.getElem?_eq_none (show (chunk wd ns).length ≤ i by omega), List.getElem?_eq_none (show (newRefs (n + 1) k).length ≤ i by simp [newRefs]; omega)]
      rfl
  have nR : V.nums ⟨n, ns.length, wd, n + 1 + 2 * k, newRefs (n + 1) k, 0, 0⟩ = ns := by
    unfold GW.nums
    rw [List.flatMap_def, e1, chunk_flat w0]
  have nS : ∀ (j : Nat) (S : RG), W.rs[j]? = some S → V.nums S = W.nums S := fun j S hj => nums_congr fun q hq => by rw [Vold q (ltq j S q hj hq)]
  have get : ∀ (j : Nat) (S : RG), V.rs[j]? = some S → W.rs[j]? = some S ∨ (j = W.rs.length ∧ S = ⟨n, ns.length, wd, n + 1 + 2 * k, newRefs (n + 1) k, 0, 0⟩) := fun j S hj => by
    rw [Vrs, List.getElem?_append] at hj
    split at hj
    · exact .inl hj
    · rename_i l
      right
      have := (List.getElem?_eq_some_iff.mp hj).1
      rw [List.length_singleton] at this
      have e : j - W.rs.length = 0 := by omega
      rw [e] at hj
      exact ⟨by omega, (Option.some.inj hj).symm⟩
  have holdV : ∀ q, V.hold q = W.hold q + if q ∈ newRefs (n + 1) k then 1 else 0 := fun q => by
    unfold GW.hold
    rw [Vrs, List.countP_append]
    simp [List.countP_cons]
  refine ⟨fun j S hj => ?_, fun j S q hj hq => ?_, fun a ha => ?_, by rw [Vrs, List.length_append, List.length_singleton]; omega⟩
  · rcases get j S hj with hj | ⟨rfl, rfl⟩
    · have s := w.rm j S hj
      have lr := w.lt S.r (by rw [s.or]; simp)
      have ll := w.lt S.pl (by rw [s.ol]; simp)
      rw [← hn] at lr ll
      refine ⟨by rw [g0 _ lr]; exact s.at_, by rw [g0 _ ll]; exact s.pl, ?_, ?_, s.w0, s.w1, s.m1, s.nd, ?_, ?_⟩
      · unfold newOwn; rw [if_pos lr]; exact s.or
      · unfold newOwn; rw [if_pos ll]; exact s.ol
      · rw [nS j S hj, ← s.ch]
        exact List.map_congr_left fun q hq => by rw [Vold q (ltq j S q hj hq)]
      · rw [nS j S hj]; exact s.ml
    · refine ⟨g1, g2, ?_, ?_, w0, w1, sz, refs_nd, ?_, ?_⟩
      · unfold newOwn; rw [if_neg (by show ¬ n < n; omega), if_pos rfl]
      · unfold newOwn; rw [if_neg (by show ¬ n + 1 + 2 * k < n; omega), if_neg (by show ¬ n + 1 + 2 * k = n; omega), if_neg (by show ¬ n + 1 + 2 * k < n + 1 + 2 * k; omega), if_pos rfl]
      · rw [nR]; exact e1
      · rw [nR]
  · rcases get j S hj with hj | ⟨rfl, rfl⟩
    · have s := w.pg j S q hj hq
      have lq := ltq j S q hj hq
      have lk := w.lt (W.pg q).kl (by rw [s.ok]; simp)
      rw [← hn] at lk
      refine ⟨by rw [g0 _ lq, Vold q lq]; exact s.at_, by rw [Vold q lq, g0 _ lk]; exact s.kl, ?_, ?_, ?_⟩
      · unfold newOwn; rw [if_pos lq]; exact s.op
      · rw [Vold q lq]; unfold newOwn; rw [if_pos lk]; exact s.ok
      · rw [Vold q lq, holdV, if_neg (fun m => by obtain ⟨i, _, e⟩ := refs_mem.mp m; omega)]
        have := s.hd; omega
    · obtain ⟨i, li, rfl⟩ := refs_mem.mp (show q ∈ newRefs (n + 1) k from hq)
      have hx := List.getElem?_eq_getElem (show i < (chunk wd ns).length by omega)
      obtain ⟨x1, x2⟩ := g3 i _ hx
      have ev := Vnew i _ hx
      have h0 : W.hold (n + 1 + 2 * i + 1) = 0 := by
        unfold GW.hold
        rw [List.countP_eq_zero]
        intro S hS
        obtain ⟨j, hj⟩ := List.mem_iff_getElem?.mp hS
        simp only [decide_eq_true_eq]
        intro m
        have := ltq j S _ hj m
        omega
      refine ⟨by rw [x2, ev], by rw [ev, x1], ?_, ?_, ?_⟩
      · unfold newOwn; rw [if_neg (by omega), if_neg (by omega), if_pos (by omega), if_neg (by omega)]
      · rw [ev]; show newOwn o n k W.rs.length (n + 1 + 2 * i) = _; unfold newOwn; rw [if_neg (by omega), if_neg (by omega), if_pos (by omega), if_pos (by omega)]
      · rw [ev, holdV, h0, if_pos (refs_mem.mpr ⟨i, li, rfl⟩)]; rfl
  · rw [len]
    unfold newOwn at ha
    split at ha
    · omega
    · split at ha
      · omega
      · split at ha
        · omega
        · split at ha
          · omega
          · exact absurd rfl ha
theorem fr_new {c : Cn} {h : CH} {o : Own} {ns : List Int} {wd i : Nat} : Fr h (newRoomH c (h ++ [.ins c.Room []]) h.length ns wd) o (newOwn o h.length (chunk wd ns).length i) := by
  have eH : newRoomH c (h ++ [.ins c.Room []]) h.length ns wd = h ++ (.ins c.Room (rF ns.length wd (.ref (h.length + 1 + 2 * (chunk wd ns).length)) 0 0) :: (pgCells c (h.length + 1) (chunk wd ns) ++ [.lst ((newRefs (h.length + 1) (chunk wd ns).length).map .ref)])) := by
    unfold newRoomH
    rw [List.length_append, List.length_singleton, List.append_assoc, List.append_assoc, List.set_append_right _ _ (Nat.le_refl _), Nat.sub_self]
    rfl
  rw [eH]
  refine ⟨by simp, fun a l _ => List.getElem?_append_left l, fun a l ha => by unfold newOwn; rw [if_pos l]; exact ha, fun hc a x hx => ?_⟩
  rw [List.getElem?_append] at hx
  have L : (h ++ (CO.ins c.Room (rF ns.length wd (.ref (h.length + 1 + 2 * (chunk wd ns).length)) 0 0) :: (pgCells c (h.length + 1) (chunk wd ns) ++ [.lst ((newRefs (h.length + 1) (chunk wd ns).length).map .ref)]))).length = h.length + 2 + 2 * (chunk wd ns).length := by simp [pgC_len]; omega
  rw [L]
  split at hx
  · exact clO_mono (by omega) _ (hc a x hx)
  · have m := List.mem_of_getElem? hx
    rcases List.mem_cons.mp m with rfl | m
    · exact clO_rm (by omega)
    · rcases List.mem_append.mp m with m | m
      · exact pgC_cl (by omega) x m
      · rw [List.mem_singleton.mp m]
        refine cl_refs fun q hq => ?_
        obtain ⟨i, li, rfl⟩ := refs_mem.mp hq
        omega
end G

namespace G
open PySem PySem.Spec PyProof.Rows L2
local macro_rules | `(tactic| walk_at "gs") => `(tactic| try simp -implicitDefEqProofs only [↓h_oP, ↓h_vr, ↓h_vI, ↓h_cnd, ↓h_eqR, ↓h_inR, ↓h_ap, ↓h_wLoop, ↓h_wComp, ↓h_gcd, ↓h_fldC, ↓h_stC, ↓h_stFC, ↓h_agC, ↓h_mtC, ↓h_exC, ↓h_lenC, ↓h_eqOR, ↓h_eqIR, ↓h_eqMR, ↓h_bmC, ↓h_apC, ↓x_skip, ↓x_seq, ↓x_asg, ↓x_asgT, ↓x_asgS, ↓x_asgD, ↓x_setIx, ↓x_setFld, ↓x_aug, ↓x_augFld, ↓x_ret, ↓x_ex, ↓x_ifS, ↓x_for, ↓x_brk, ↓x_bad, ↓x_badE, ↓x_cont, ↓x_ret0, ↓x_con, ↓x_var, ↓x_thaw, ↓x_cool, ↓x_maxD, ↓x_bin, ↓x_neg, ↓x_nt, ↓x_cmp, ↓x_chn, ↓x_an, ↓x_orr, ↓x_ife, ↓x_tup, ↓x_lst, ↓x_ix, ↓x_sl, ↓x_sl3, ↓x_srev, ↓x_fld, ↓x_call, ↓x_callk, ↓x_newk, ↓x_lrng, ↓x_lnrg, ↓x_lenI, ↓x_cmpO, ↓x_cmpM, ↓x_cmpI, ↓x_lenL, ↓x_lenA, ↓x_lenT, ↓x_lenO, ↓x_lenR, ↓x_lenCi, ↓x_lenCl, ↓x_lenCf, ↓x_new, ↓x_mth, ↓x_blt, ↓x_bm, ↓x_isi, ↓x_lc, ↓x_lc2, ↓x_yes, ↓x_val, ↓x_ntB, ↓x_anB, ↓x_orB, ↓x_oN, ↓x_oS, ↓x_nil, ↓x_cons, ↓x_ival, ↓x_rng1, ↓x_rng2, ↓x_rng3, ↓x_enum, ↓x_enumz, ↓x_zip, ↓x_rev, ↓x_oPs, ↓x_vrs, ↓x_vIs, ↓x_inI, ↓x_inB, ↓x_inV, ↓x_toI, ↓x_toIb, ↓x_toB, ↓x_toBb, ↓x_cT, ↓x_cF, ↓x_cN, ↓x_thwA, ↓x_thwV, ↓x_adV, ↓x_adA, ↓x_asN, ↓x_asV, ↓x_asA, ↓x_fldO, ↓x_ixN, ↓x_mthO, ↓x_bII, ↓x_bTI, ↓x_bTT, ↓x_blAA, ↓x_blAL, ↓x_bmA, ↓x_blLA, ↓x_blLL, ↓x_bmL, ↓x_blRA, ↓x_blRL, ↓x_blRR, ↓x_blAR, ↓x_blLR, ↓x_binIp, ↓x_binIs, ↓x_binIm, ↓x_binId, ↓x_binIr, ↓x_binAp, ↓x_binAs, ↓x_binAm, ↓x_binAd, ↓x_binAr, ↓x_binIw, ↓x_lt, ↓x_le, ↓x_gt, ↓x_ge, ↓x_eq, ↓x_ne, ↓x_is, ↓x_isn, ↓x_in, ↓x_nin, ↓x_eqI, ↓x_eqT, ↓x_oInt, ↓x_iInt, ↓x_oBl, ↓x_iBl, ↓x_oNon, ↓x_iNon, ↓x_oTup, ↓x_iTup, ↓x_oLst, ↓x_iLst, ↓x_oAl, ↓x_iAl, ↓x_oStr, ↓x_iStr, ↓x_ixR, ↓x_slT, ↓x_slA, ↓x_slL, ↓x_slR, ↓x_sl3R, ↓x_partI, ↓x_partN, ↓x_hdC, ↓x_srT, ↓x_srA, ↓x_srL, ↓x_srR, ↓x_len, ↓x_abs, ↓x_min, ↓x_max, ↓x_min1, ↓x_max1, ↓x_sum, ↓x_all, ↓x_any, ↓x_int, ↓x_bool, ↓x_list, ↓x_tuple, ↓x_dm, ↓x_fldR0, ↓x_fldC, ↓x_stIx0, ↓x_stC, ↓x_stFld0, ↓x_stFC, ↓x_agFld0, ↓x_agC, ↓x_mth0, ↓x_mtC, ↓x_apd0, ↓x_bm_remove, ↓x_bm_pop, ↓x_bm_insert, ↓x_bm_reverse, ↓x_bm_clear, ↓x_bmCl, ↓x_cnt, ↓x_idxm, ↓x_bmK, ↓x_ext0, ↓x_exC, ↓x_apC, Bool.true_xor, Bool.false_xor, bfRm, bfP0, bfP1, bfIn, bfRv, bfCl, sqT, sqL, sqA, lsL, lsA, lmL, lmA, lmR, lmCl, cvT, cvF, arN, arP, arK, arD, lkHit, tpTv, tpT, tpL, tpA, tpR, trN, trB, trI, trT, trL, trA, itN, itB, itI, itS, itT, itL, itA, itO, sqR, lsR, lsCl, lsCf, trR, trCl, trCf, itR, itCl, itCf, itCi, gv0, gvS, sv0, svS, uv0, uvS, svsN, svsC, uvsN, uvsC, wGn, wGt, wGsN, wGsC, ctNn, ctNt, ctNsN, ctNsC, st0E, isNN, isBN, isIN, isSN, isTN, isLN, isON, isRN, isAN, isBB, at0, ix0, at1, ix1, at2, ix2, at3, ix3, at4, ix4, at5, ix5, at6, ix6, at7, ix7, atI_map, lkRV, sz0, sz1, sz2, sz3, sz4, sz5, sz6, sz7, sz8, sz9, sz10, sz11, sz12, sz13, sz14, sz15, sz16, ↓hid_val, enum_map, zip_map, rev_map, List.map_cons, List.map_nil, List.length_cons, List.length_nil, List.length_map, List.replicate_succ, List.replicate_zero, List.cons_append, List.nil_append, List.append_nil, Option.bind_some, Option.map_some, Option.isSome_some, Option.isSome_none, reduceCtorEq, Nat.reduceAdd, Nat.reduceSub, Nat.reduceMul, ite_true, ite_false, if_true, if_false, Bool.not_true, Bool.not_false, Bool.not_not, decide_true, decide_false, Bool.false_eq_true, and_true, true_and, len_concat, set_concat, List.set_cons_zero, List.set_cons_succ, List.getD_cons_zero, List.getD_cons_succ, List.take_succ_cons, List.take_zero, List.drop_succ_cons, List.drop_zero, List.getElem?_cons_zero, List.getElem?_cons_succ, ints_map, ints_map', bls_map, or_self, false_or, or_false, true_or, or_true, Nat.zero_add, List.isEmpty_cons, List.isEmpty_nil, lk_rF_many, lk_rF_width, lk_rF_pages, lk_rF_copies, lk_rF_shuts, lk_rF_read, lk_rF_write, lk_rF_need, lk_rF_numbers, lk_rF_own_page, lk_rF_twin, lk_rF_copied, lk_rF_is_shut, lk_rF_shared, lk_pF_kept, lk_pF_holders, lk_vF_held, lk_vF_lengths, lk_vF_begin, lk_vF_steps, lk_vF_tell, lk_vF_room, lk_vF_sides, lk_vF_first, lk_vF_strides, lk_vF_cells, lk_vF_cell, lk_vF_at, lk_vF_put, lk_vF_numbers, lk_vF_nested, lk_vF_twin, lk_vF_copy_of, lk_pZ_kept, lk_pZ_holders, lk_vZ_held, lk_vZ_lengths, lk_vZ_begin, lk_vZ_steps, lk_vZ_tell, lk_vZ_room, lk_vZ_sides, lk_vZ_first, lk_vZ_strides, lk_vZ_cells, lk_vZ_cell, lk_vZ_at, lk_vZ_put, lk_vZ_numbers, lk_vZ_nested, lk_vZ_twin, lk_vZ_copy_of, pt_p_kept, pu_p_kept, pt_p_holders, pu_p_holders, pt_r_many, pu_r_many, pt_r_width, pu_r_width, pt_r_pages, pu_r_pages, pt_r_copies, pu_r_copies, pt_r_shuts, pu_r_shuts, pt_v_held, pu_v_held, pt_v_lengths, pu_v_lengths, pt_v_begin, pu_v_begin, pt_v_steps, pu_v_steps, pr_many, pr_width, pr_pages, pr_copies, pr_shuts, rF_len, List.mem_cons, List.mem_singleton, List.not_mem_nil, Nat.reduceLT, lk_v1_tell, List.set_set, List.getElem?_set_self, get_mid, get_mid2, eq_self, lk_q_kept, lk_q_holders, pr_q_holders, pgF_len])
local macro_rules | `(tactic| walk_at "gc") => `(tactic| first | refine cnd_t (decide_eq_true (by omega)) ?_ | refine cnd_f (decide_eq_false (by omega)) ?_)
local macro_rules | `(tactic| walk_at "gw") => `(tactic| (walk_at "gs"; repeat (walk_at "gc"; walk_at "gs")))
local macro_rules | `(tactic| walk_at "gv") => `(tactic| (walk_at "gs"; repeat ((first | refine ap_room ?_ | refine ap_sides ?_ | refine ap_first ?_ | refine ap_strides ?_); walk_at "gs")))
local macro_rules | `(tactic| walk_at "gu") => `(tactic| (walk_at "gv"; repeat (walk_at "gc"; walk_at "gv")))
local macro_rules | `(tactic| walk_at "gh") => `(tactic| try simp -implicitDefEqProofs only [↓h_oP, ↓h_vr, ↓h_vI, ↓h_cnd, ↓h_eqR, ↓h_inR, ↓h_ap, ↓h_wLoop, ↓h_wComp, ↓h_gcd, ↓h_fldC, ↓h_stC, ↓h_stFC, ↓h_agC, ↓h_mtC, ↓h_exC, ↓h_lenC, ↓h_eqOR, ↓h_eqIR, ↓h_eqMR, ↓h_bmC, ↓h_apC, ↓x_skip, ↓x_seq, ↓x_asg, ↓x_asgT, ↓x_asgS, ↓x_asgD, ↓x_setIx, ↓x_setFld, ↓x_aug, ↓x_augFld, ↓x_ret, ↓x_ex, ↓x_ifS, ↓x_for, ↓x_brk, ↓x_bad, ↓x_badE, ↓x_cont, ↓x_ret0, ↓x_con, ↓x_var, ↓x_thaw, ↓x_cool, ↓x_maxD, ↓x_bin, ↓x_neg, ↓x_nt, ↓x_cmp, ↓x_chn, ↓x_an, ↓x_orr, ↓x_ife, ↓x_tup, ↓x_lst, ↓x_ix, ↓x_sl, ↓x_sl3, ↓x_srev, ↓x_fld, ↓x_call, ↓x_callk, ↓x_newk, ↓x_lrng, ↓x_lnrg, ↓x_lenI, ↓x_cmpO, ↓x_cmpM, ↓x_cmpI, ↓x_lenL, ↓x_lenA, ↓x_lenT, ↓x_lenO, ↓x_lenR, ↓x_lenCi, ↓x_lenCl, ↓x_lenCf, ↓x_new, ↓x_mth, ↓x_blt, ↓x_bm, ↓x_isi, ↓x_lc, ↓x_lc2, ↓x_yes, ↓x_val, ↓x_ntB, ↓x_anB, ↓x_orB, ↓x_oN, ↓x_oS, ↓x_nil, ↓x_cons, ↓x_ival, ↓x_rng1, ↓x_rng2, ↓x_rng3, ↓x_enum, ↓x_enumz, ↓x_zip, ↓x_rev, ↓x_oPs, ↓x_vrs, ↓x_vIs, ↓x_inI, ↓x_inB, ↓x_inV, ↓x_toI, ↓x_toIb, ↓x_toB, ↓x_toBb, ↓x_cT, ↓x_cF, ↓x_cN, ↓x_thwA, ↓x_thwV, ↓x_adV, ↓x_adA, ↓x_asN, ↓x_asV, ↓x_asA, ↓x_fldO, ↓x_ixN, ↓x_mthO, ↓x_bII, ↓x_bTI, ↓x_bTT, ↓x_blAA, ↓x_blAL, ↓x_bmA, ↓x_blLA, ↓x_blLL, ↓x_bmL, ↓x_blRA, ↓x_blRL, ↓x_blRR, ↓x_blAR, ↓x_blLR, ↓x_binIp, ↓x_binIs, ↓x_binIm, ↓x_binId, ↓x_binIr, ↓x_binAp, ↓x_binAs, ↓x_binAm, ↓x_binAd, ↓x_binAr, ↓x_binIw, ↓x_lt, ↓x_le, ↓x_gt, ↓x_ge, ↓x_eq, ↓x_ne, ↓x_is, ↓x_isn, ↓x_in, ↓x_nin, ↓x_eqI, ↓x_eqT, ↓x_oInt, ↓x_iInt, ↓x_oBl, ↓x_iBl, ↓x_oNon, ↓x_iNon, ↓x_oTup, ↓x_iTup, ↓x_oLst, ↓x_iLst, ↓x_oAl, ↓x_iAl, ↓x_oStr, ↓x_iStr, ↓x_ixR, ↓x_slT, ↓x_slA, ↓x_slL, ↓x_slR, ↓x_sl3R, ↓x_partI, ↓x_partN, ↓x_hdC, ↓x_srT, ↓x_srA, ↓x_srL, ↓x_srR, ↓x_len, ↓x_abs, ↓x_min, ↓x_max, ↓x_min1, ↓x_max1, ↓x_sum, ↓x_all, ↓x_any, ↓x_int, ↓x_bool, ↓x_list, ↓x_tuple, ↓x_dm, ↓x_fldR0, ↓x_fldC, ↓x_stIx0, ↓x_stC, ↓x_stFld0, ↓x_stFC, ↓x_agFld0, ↓x_agC, ↓x_mth0, ↓x_mtC, ↓x_apd0, ↓x_bm_remove, ↓x_bm_pop, ↓x_bm_insert, ↓x_bm_reverse, ↓x_bm_clear, ↓x_bmCl, ↓x_cnt, ↓x_idxm, ↓x_bmK, ↓x_ext0, ↓x_exC, ↓x_apC, Bool.true_xor, Bool.false_xor, bfRm, bfP0, bfP1, bfIn, bfRv, bfCl, sqT, sqL, sqA, lsL, lsA, lmL, lmA, lmR, lmCl, cvT, cvF, arN, arP, arK, arD, lkHit, tpTv, tpT, tpL, tpA, tpR, trN, trB, trI, trT, trL, trA, itN, itB, itI, itS, itT, itL, itA, itO, sqR, lsR, lsCl, lsCf, trR, trCl, trCf, itR, itCl, itCf, itCi, gv0, gvS, sv0, svS, uv0, uvS, svsN, svsC, uvsN, uvsC, wGn, wGt, wGsN, wGsC, ctNn, ctNt, ctNsN, ctNsC, st0E, isNN, isBN, isIN, isSN, isTN, isLN, isON, isRN, isAN, isBB, at0, ix0, at1, ix1, at2, ix2, at3, ix3, at4, ix4, at5, ix5, at6, ix6, at7, ix7, atI_map, lkRV, sz0, sz1, sz2, sz3, sz4, sz5, sz6, sz7, sz8, sz9, sz10, sz11, sz12, sz13, sz14, sz15, sz16, ↓hid_val, enum_map, zip_map, rev_map, List.map_cons, List.map_nil, List.length_cons, List.length_nil, List.length_map, List.replicate_succ, List.replicate_zero, List.cons_append, List.nil_append, List.append_nil, Option.bind_some, Option.map_some, Option.isSome_some, Option.isSome_none, reduceCtorEq, Nat.reduceAdd, Nat.reduceSub, Nat.reduceMul, ite_true, ite_false, if_true, if_false, Bool.not_true, Bool.not_false, Bool.not_not, decide_true, decide_false, Bool.false_eq_true, and_true, true_and, len_concat, set_concat, List.set_cons_zero, List.set_cons_succ, List.getD_cons_zero, List.getD_cons_succ, List.take_succ_cons, List.take_zero, List.drop_succ_cons, List.drop_zero, List.getElem?_cons_zero, List.getElem?_cons_succ, ints_map, ints_map', bls_map, or_self, false_or, or_false, true_or, or_true, Nat.zero_add, List.isEmpty_cons, List.isEmpty_nil, lk_rF_many, lk_rF_width, lk_rF_pages, lk_rF_copies, lk_rF_shuts, lk_rF_read, lk_rF_write, lk_rF_need, lk_rF_numbers, lk_rF_own_page, lk_rF_twin, lk_rF_copied, lk_rF_is_shut, lk_rF_shared, lk_pF_kept, lk_pF_holders, lk_vF_held, lk_vF_lengths, lk_vF_begin, lk_vF_steps, lk_vF_tell, lk_vF_room, lk_vF_sides, lk_vF_first, lk_vF_strides, lk_vF_cells, lk_vF_cell, lk_vF_at, lk_vF_put, lk_vF_numbers, lk_vF_nested, lk_vF_twin, lk_vF_copy_of, lk_pZ_kept, lk_pZ_holders, lk_vZ_held, lk_vZ_lengths, lk_vZ_begin, lk_vZ_steps, lk_vZ_tell, lk_vZ_room, lk_vZ_sides, lk_vZ_first, lk_vZ_strides, lk_vZ_cells, lk_vZ_cell, lk_vZ_at, lk_vZ_put, lk_vZ_numbers, lk_vZ_nested, lk_vZ_twin, lk_vZ_copy_of, pt_p_kept, pu_p_kept, pt_p_holders, pu_p_holders, pt_r_many, pu_r_many, pt_r_width, pu_r_width, pt_r_pages, pu_r_pages, pt_r_copies, pu_r_copies, pt_r_shuts, pu_r_shuts, pt_v_held, pu_v_held, pt_v_lengths, pu_v_lengths, pt_v_begin, pu_v_begin, pt_v_steps, pu_v_steps, pr_many, pr_width, pr_pages, pr_copies, pr_shuts, rF_len, List.mem_cons, List.mem_singleton, List.not_mem_nil, Nat.reduceLT, lk_v1_tell, List.set_set, List.getElem?_set_self, get_mid, get_mid2, eq_self, lk_q_kept, lk_q_holders, pr_q_holders, pgF_len, *])
def GW.twn (W : GW) (n : Nat) (R : RG) : GW where
  rs := W.rs ++ [{ R with r := n, pl := n + 2, cp := 0, sh := 0 }]
  pg := fun q => if q ∈ R.ps then { W.pg q with hd := (W.pg q).hd + 1 } else W.pg q
def twnOwn (o : Own) (n i : Nat) : Own := fun a => if a < n then o a else if a = n then some (0, i) else if a = n + 2 then some (1, i) else none
structure TwnH (c : Cn) (h H : CH) (W : GW) (R : RG) : Prop where
  len : H.length = h.length + 3
  ps : ∀ p ∈ R.ps, H[p]? = some (.ins c.Page (pgF (W.pg p).kl ((W.pg p).hd + 1)))
  old : ∀ a, a < h.length → a ∉ R.ps → H[a]? = h[a]?
  n0 : H[h.length]? = some (.ins c.Room (rF R.m R.w (.ref (h.length + 2)) 0 0))
  n1 : H[h.length + 1]? = some (.lst [])
  n2 : H[h.length + 2]? = some (.lst (R.ps.map .ref))
theorem Wd.twn {c : Cn} {h H : CH} {W : GW} {o : Own} (w : Wd c h W o) {i : Nat} {R : RG} (hi : W.rs[i]? = some R) (T : TwnH c h H W R) (few : W.rs.length < 2 ^ 20) : Wd c H (W.twn h.length R) (twnOwn o h.length W.rs.length) := by
  obtain ⟨n, hn⟩ : ∃ n, n = h.length := ⟨_, rfl⟩
  obtain ⟨V, hV⟩ : ∃ V, V = W.twn h.length R := ⟨_, rfl⟩
  obtain ⟨len, ps, old, n0, n1, n2⟩ := T
  rw [← hV]
  rw [← hn] at hV len old n0 n1 n2 ⊢
  have r := w.rm i R hi
  have pgi : ∀ q, q ∈ R.ps → PgA c h W o q := fun q hq => w.pg i R q hi hq
  have Vrs : V.rs = W.rs ++ [{ R with r := n, pl := n + 2, cp := 0, sh := 0 }] := by rw [hV]; rfl
  have Vin : ∀ q, q ∈ R.ps → V.pg q = { W.pg q with hd := (W.pg q).hd + 1 } := fun q m => by rw [hV]; exact if_pos m
  have Vout : ∀ q, q ∉ R.ps → V.pg q = W.pg q := fun q m => by rw [hV]; exact if_neg m
  have Vns : ∀ q, (V.pg q).ns = (W.pg q).ns := fun q => by
    by_cases m : q ∈ R.ps
    · rw [Vin q m]
    · rw [Vout q m]
  have Vkl : ∀ q, (V.pg q).kl = (W.pg q).kl := fun q => by
    by_cases m : q ∈ R.ps
    · rw [Vin q m]
    · rw [Vout q m]
  have nS : ∀ (S : RG), V.nums S = W.nums S := fun S => nums_congr fun q hq => Vns q
  have nR : V.nums { R with r := n, pl := n + 2, cp := 0, sh := 0 } = W.nums R := nS { R with r := n, pl := n + 2, cp := 0, sh := 0 }
  have ltq : ∀ (j : Nat) (S : RG) (q : Nat), W.rs[j]? = some S → q ∈ S.ps → q < n := fun j S q hj hq => by rw [hn]; exact w.lt q (by rw [(w.pg j S q hj hq).op]; simp)
  have get : ∀ (j : Nat) (S : RG), V.rs[j]? = some S → W.rs[j]? = some S ∨ (j = W.rs.length ∧ S = { R with r := n, pl := n + 2, cp := 0, sh := 0 }) := fun j S hj => by
    rw [Vrs, List.getElem?_append] at hj
    split at hj
    · exact .inl hj
    · rename_i l
      right
      have := (List.getElem?_eq_some_iff.mp hj).1
      rw [List.length_singleton] at this
      have e : j - W.rs.length = 0 := by omega
      rw [e] at hj
      exact ⟨by omega, (Option.some.inj hj).symm⟩
  have holdV : ∀ q, V.hold q = W.hold q + if q ∈ R.ps then 1 else 0 := fun q => by
    unfold GW.hold
    rw [Vrs, List.countP_append]
    simp [List.countP_cons]
  have notp : ∀ a x, o a = some x → x.1 ≠ 2 → a ∉ R.ps := fun a x ha hx m => by
    have := (pgi a m).op
    rw [ha] at this; cases this; exact hx rfl
  have pgV : ∀ q, PgA c h W o q → PgA c H V (twnOwn o n W.rs.length) q := fun q s => by
    have lq := w.lt q (by rw [s.op]; simp)
    have lk := w.lt (W.pg q).kl (by rw [s.ok]; simp)
    rw [← hn] at lk lq
    refine ⟨?_, ?_, ?_, ?_, ?_⟩
    · by_cases m : q ∈ R.ps
      · rw [ps q m, Vin q m]
      · rw [old q lq m, Vout q m]; exact s.at_
    · rw [Vkl, Vns, old _ lk (notp _ _ s.ok (by simp))]; exact s.kl
    · unfold twnOwn; rw [if_pos lq]; exact s.op
    · rw [Vkl]; unfold twnOwn; rw [if_pos lk]; exact s.ok
    · rw [holdV]
      have := s.hd
      by_cases m : q ∈ R.ps
      · rw [Vin q m, if_pos m]; show (W.pg q).hd + 1 = _; omega
      · rw [Vout q m, if_neg m]; omega
  refine ⟨fun j S hj => ?_, fun j S q hj hq => ?_, fun a ha => ?_, by rw [Vrs, List.length_append, List.length_singleton]; omega⟩
  · rcases get j S hj with hj | ⟨rfl, rfl⟩
    · have s := w.rm j S hj
      have lr := w.lt S.r (by rw [s.or]; simp)
      have ll := w.lt S.pl (by rw [s.ol]; simp)
      rw [← hn] at lr ll
      refine ⟨by rw [old _ lr (notp _ _ s.or (by simp))]; exact s.at_, by rw [old _ ll (notp _ _ s.ol (by simp))]; exact s.pl, ?_, ?_, s.w0, s.w1, s.m1, s.nd, ?_, ?_⟩
      · unfold twnOwn; rw [if_pos lr]; exact s.or
      · unfold twnOwn; rw [if_pos ll]; exact s.ol
      · rw [nS, ← s.ch]
        exact List.map_congr_left fun q hq => Vns q
      · rw [nS]; exact s.ml
    · refine ⟨n0, n2, ?_, ?_, r.w0, r.w1, r.m1, r.nd, ?_, ?_⟩
      · unfold twnOwn; rw [if_neg (by show ¬ n < n; omega), if_pos rfl]
      · unfold twnOwn; rw [if_neg (by show ¬ n + 2 < n; omega), if_neg (by show ¬ n + 2 = n; omega), if_pos rfl]
      · rw [nR]
        show R.ps.map (fun p => (V.pg p).ns) = chunk R.w (W.nums R)
        rw [← r.ch]
        exact List.map_congr_left fun q hq => Vns q
      · rw [nR]; exact r.ml
  · rcases get j S hj with hj | ⟨rfl, rfl⟩
    · exact pgV q (w.pg j S q hj hq)
    · exact pgV q (pgi q hq)
  · rw [len]
    unfold twnOwn at ha
    split at ha
    · omega
    · split at ha
      · omega
      · split at ha
        · omega
        · exact absurd rfl ha
theorem fr_twn {c : Cn} {h H : CH} {W : GW} {o : Own} (w : Wd c h W o) {i j : Nat} {R : RG} (hi : W.rs[i]? = some R) (T : TwnH c h H W R) : Fr h H o (twnOwn o h.length j) := by
  refine ⟨by have := T.len; omega, fun a l ha => T.old a l fun m => (by have := (w.pg i R a hi m).op; rw [ha] at this; cases this), fun a l ha => by unfold twnOwn; rw [if_pos l]; exact ha, fun hc a x hx => ?_⟩
  have L := T.len
  have la := (List.getElem?_eq_some_iff.mp hx).1
  by_cases e0 : a < h.length
  · by_cases m : a ∈ R.ps
    · rw [T.ps a m] at hx; cases hx
      have := w.lt (W.pg a).kl (by rw [(w.pg i R a hi m).ok]; simp)
      exact clO_pg (by omega)
    · rw [T.old a e0 m] at hx
      exact clO_mono (by omega) _ (hc a x hx)
  · have : a = h.length ∨ a = h.length + 1 ∨ a = h.length + 2 := by omega
    rcases this with rfl | rfl | rfl
    · rw [T.n0] at hx; cases hx; exact clO_rm (by omega)
    · rw [T.n1] at hx; cases hx; exact (show clO _ (CO.lst []) from trivial)
    · rw [T.n2] at hx; cases hx
      refine cl_refs fun q hq => ?_
      have := w.lt q (by rw [(w.pg i R q hi hq).op]; simp)
      omega
def sp_Room_twin (c : Cn) : Spec := fun cs h k _ => ∃ (W : GW) (o : Own) (i : Nat) (R : RG), cs = [.ref R.r] ∧ Wd c h W o ∧ W.rs[i]? = some R ∧ W.rs.length < 2 ^ 20 ∧ ∀ h' o', Wd c h' (W.twn h.length R) o' → Fr h h' o o' → k (.v (.ref h.length)) h'
/-- Room.twin: 0 self, 1 found, 2 page -/
def ir_Room_twin (c : Cn) : CS := .seq (.asg 1 (.newk c.Room (sp_Room_init c) 1 1 [.p 0, .p 1, .k 0] (.cons (.tup (.nil)) (.nil)) (.cons (.fld (.var 0) "width" [c.Room]) (.nil)))) (.seq (.setFld (.var 1) "many" [c.Room] (.fld (.var 0) "many" [c.Room])) (.seq (.setFld (.var 1) "pages" [c.Room] (.thaw (.blt .list (.cons (.fld (.var 0) "pages" [c.Room]) (.nil))))) (.seq (.forr (.name 2) (.val (.fld (.var 1) "pages" [c.Room])) (.augFld .Add (.var 2) "holders" [c.Page] (.con (.int 1)))) (.ret (.var 1)))))
theorem w_Room_twin (c : Cn) : ∀ cs h k E, sp_Room_twin c cs h k E → cs.length = 1 → clH h → clVs h.length cs → wS (ir_Room_twin c) (ret0 h k E) (st0 3 cs) h := by
  rintro _ h k E ⟨W, o, i, R, rfl, w, hi, few, hk⟩ _ hcl _
  unfold ir_Room_twin
  have r := w.rm i R hi
  have hR := r.at_
  have w0 := r.w0
  have w1 := r.w1
  have hl := r.pl
  have lr := w.lt R.r (by rw [r.or]; simp)
  have ll := w.lt R.pl (by rw [r.ol]; simp)
  walk_at "gh"
  refine ⟨_, _, [], R.w, rfl, len_concat, rfl, w0, w1, by decide, ?_⟩
  have e0 : newRoomH c (h ++ [.ins c.Room []]) h.length [] R.w = h ++ [.ins c.Room (rF 0 R.w (.ref (h.length + 1)) 0 0), .lst []] := by
    unfold newRoomH
    have ec : chunk R.w [] = [] := by
      have := chunk_len R.w []
      rw [List.length_nil, Nat.zero_add, Nat.div_eq_of_lt (by omega)] at this
      exact List.eq_nil_of_length_eq_zero this
    rw [ec, List.append_assoc, List.append_assoc, List.set_append_right _ _ (Nat.le_refl _), Nat.sub_self]
    simp [pgCells, newRefs]
  rw [e0]
  obtain ⟨H, hH⟩ : ∃ H, H = h ++ [CO.ins c.Room (rF 0 R.w (.ref (h.length + 1)) 0 0), CO.lst []] := ⟨_, rfl⟩
  rw [← hH]
  have a1 : H[R.r]? = some (.ins c.Room (rF R.m R.w (.ref R.pl) R.cp R.sh)) := by rw [hH, List.getElem?_append_left lr]; exact hR
  have a2 : H[h.length]? = some (.ins c.Room (rF 0 R.w (.ref (h.length + 1)) 0 0)) := by rw [hH, List.getElem?_append_right (Nat.le_refl _), Nat.sub_self]; rfl
  have Hl : H.length = h.length + 2 := by rw [hH]; simp
  have a3 : H[R.pl]? = some (.lst (R.ps.map .ref)) := by rw [hH, List.getElem?_append_left ll]; exact hl
  have a4 : ∀ a, a < h.length → H[a]? = h[a]? := fun a l => by rw [hH, List.getElem?_append_left l]
  have a5 : H[h.length + 1]? = some (.lst []) := by rw [hH, List.getElem?_append_right (by omega), show h.length + 1 - h.length = 1 by omega]; rfl
  have nr : h.length ≠ R.r := by omega
  have nl : h.length ≠ R.pl := by omega
  have b1 : ∀ x, (H.set h.length x)[h.length]? = some x := fun x => List.getElem?_set_self (by omega)
  have b2 : ∀ x, (H.set h.length x)[R.r]? = some (.ins c.Room (rF R.m R.w (.ref R.pl) R.cp R.sh)) := fun x => by rw [List.getElem?_set_ne nr]; exact a1
  have b3 : ∀ x, (H.set h.length x)[R.pl]? = some (.lst (R.ps.map .ref)) := fun x => by rw [List.getElem?_set_ne nl]; exact a3
  have b4 : ∀ x y, (H.set h.length x).set h.length y = H.set h.length y := fun x y => List.set_set ..
  have b5 : ∀ x, (H.set h.length x).length = h.length + 2 := fun x => by simp [Hl]
  have b6 : ∀ x y g, (H.set h.length x ++ g).set h.length y = H.set h.length y ++ g := fun x y g => by rw [List.set_append_left _ _ (by rw [b5]; omega), b4]
  have b7 : ∀ x g, (H.set h.length x ++ g)[h.length]? = some x := fun x g => by rw [List.getElem?_append_left (by rw [b5]; omega), b1]
  have b8 : ∀ x y, (H.set h.length x ++ [y])[h.length + 2]? = some y := fun x y => by rw [List.getElem?_append_right (by rw [b5]; omega), b5, Nat.sub_self]; rfl
  clear hR hH e0 nr nl
  walk_at "gh"
  obtain ⟨H2, hH2⟩ : ∃ H2, H2 = H.set h.length (.ins c.Room (rF R.m R.w (.ref (h.length + 2)) 0 0)) ++ [CO.lst (R.ps.map .ref)] := ⟨_, rfl⟩
  have L2 : H2.length = h.length + 3 := by rw [hH2, List.length_append, b5]; rfl
  have c0 : H2[h.length]? = some (.ins c.Room (rF R.m R.w (.ref (h.length + 2)) 0 0)) := by rw [hH2]; exact b7 _ _
  have c1 : H2[h.length + 1]? = some (.lst []) := by rw [hH2, List.getElem?_append_left (by rw [b5]; omega), List.getElem?_set_ne (by omega)]; exact a5
  have c2 : H2[h.length + 2]? = some (.lst (R.ps.map .ref)) := by rw [hH2]; exact b8 _ _
  have c3 : ∀ a, a < h.length → H2[a]? = h[a]? := fun a l => by rw [hH2, List.getElem?_append_left (by rw [b5]; omega), List.getElem?_set_ne (by omega)]; exact a4 a l
  rw [← hH2]
  have lp : ∀ p ∈ R.ps, p < h.length := fun p hp => w.lt p (by rw [(w.pg i R p hi hp).op]; simp)
  have nd := r.nd
  clear hH2 b1 b2 b3 b4 b5 b6 b7 b8 a1 a2 a3 a4 a5 Hl hl
  refine loop_map (fun d σ h' => (h'.length = h.length + 3 ∧ (∀ p ∈ d, h'[p]? = some (.ins c.Page (pgF (W.pg p).kl ((W.pg p).hd + 1)))) ∧ ∀ a, a ∉ d → h'[a]? = H2[a]?) ∧ ∃ v2, σ = [some (.ref R.r), some (.ref h.length), v2]) ⟨⟨L2, by simp, fun _ _ => rfl⟩, _, rfl⟩ ?_ ?_ ?_
  · rintro d r2 σ h' e ⟨⟨l, hd, ho⟩, _⟩
    show h'[h.length + 2]? = H2[h.length + 2]?
    exact ho _ fun m => by have := lp (h.length + 2) (by rw [e]; simp [m]); omega
  · rintro d p r2 _ h' e ⟨⟨l, hd, ho⟩, v2, rfl⟩
    have pm : p ∈ R.ps := by rw [e]; simp
    have g := w.pg i R p hi pm
    have lpp := lp p pm
    have pd : p ∉ d := fun m => by
      rw [e] at nd
      exact (List.nodup_append.mp nd).2.2 p m p (by simp) rfl
    have hp : h'[p]? = some (.ins c.Page (pgF (W.pg p).kl (W.pg p).hd)) := by rw [ho p pd, c3 p lpp]; exact g.at_
    walk_at "gs"
    rw [hp]
    walk_at "gs"
    refine ⟨hp, ⟨by rw [List.length_set]; exact l, fun q hq => ?_, fun a ha => ?_⟩, _, rfl⟩
    · rcases List.mem_append.mp hq with hq | hq
      · have : p ≠ q := fun e => pd (e ▸ hq)
        rw [List.getElem?_set_ne this]; exact hd q hq
      · rw [List.mem_singleton.mp hq, List.getElem?_set_self (by omega)]
    · rw [List.mem_append, List.mem_singleton] at ha
      have : p ≠ a := fun e => ha (.inr e.symm)
      rw [List.getElem?_set_ne this]
      exact ho a fun m => ha (.inl m)
  · rintro _ h' ⟨⟨l, hd, ho⟩, v2, rfl⟩
    have nm : ∀ a, h.length ≤ a → a ∉ R.ps := fun a la m => by have := lp a m; omega
    have T : TwnH c h h' W R := ⟨l, hd, fun a la m => by rw [ho a m, c3 a la], by rw [ho _ (nm _ (Nat.le_refl _))]; exact c0, by rw [ho _ (nm _ (by omega))]; exact c1, by rw [ho _ (nm _ (by omega))]; exact c2⟩
    walk_at "gs"
    exact gc_same (hk h' _ (w.twn hi T few) (fr_twn w hi T))
end G

namespace G
open PySem PySem.Spec PyProof.Rows L2
local macro_rules | `(tactic| walk_at "gs") => `(tactic| try simp -implicitDefEqProofs only [↓h_oP, ↓h_vr, ↓h_vI, ↓h_cnd, ↓h_eqR, ↓h_inR, ↓h_ap, ↓h_wLoop, ↓h_wComp, ↓h_gcd, ↓h_fldC, ↓h_stC, ↓h_stFC, ↓h_agC, ↓h_mtC, ↓h_exC, ↓h_lenC, ↓h_eqOR, ↓h_eqIR, ↓h_eqMR, ↓h_bmC, ↓h_apC, ↓x_skip, ↓x_seq, ↓x_asg, ↓x_asgT, ↓x_asgS, ↓x_asgD, ↓x_setIx, ↓x_setFld, ↓x_aug, ↓x_augFld, ↓x_ret, ↓x_ex, ↓x_ifS, ↓x_for, ↓x_brk, ↓x_bad, ↓x_badE, ↓x_cont, ↓x_ret0, ↓x_con, ↓x_var, ↓x_thaw, ↓x_cool, ↓x_maxD, ↓x_bin, ↓x_neg, ↓x_nt, ↓x_cmp, ↓x_chn, ↓x_an, ↓x_orr, ↓x_ife, ↓x_tup, ↓x_lst, ↓x_ix, ↓x_sl, ↓x_sl3, ↓x_srev, ↓x_fld, ↓x_call, ↓x_callk, ↓x_newk, ↓x_lrng, ↓x_lnrg, ↓x_lenI, ↓x_cmpO, ↓x_cmpM, ↓x_cmpI, ↓x_lenL, ↓x_lenA, ↓x_lenT, ↓x_lenO, ↓x_lenR, ↓x_lenCi, ↓x_lenCl, ↓x_lenCf, ↓x_new, ↓x_mth, ↓x_blt, ↓x_bm, ↓x_isi, ↓x_lc, ↓x_lc2, ↓x_yes, ↓x_val, ↓x_ntB, ↓x_anB, ↓x_orB, ↓x_oN, ↓x_oS, ↓x_nil, ↓x_cons, ↓x_ival, ↓x_rng1, ↓x_rng2, ↓x_rng3, ↓x_enum, ↓x_enumz, ↓x_zip, ↓x_rev, ↓x_oPs, ↓x_vrs, ↓x_vIs, ↓x_inI, ↓x_inB, ↓x_inV, ↓x_toI, ↓x_toIb, ↓x_toB, ↓x_toBb, ↓x_cT, ↓x_cF, ↓x_cN, ↓x_thwA, ↓x_thwV, ↓x_adV, ↓x_adA, ↓x_asN, ↓x_asV, ↓x_asA, ↓x_fldO, ↓x_ixN, ↓x_mthO, ↓x_bII, ↓x_bTI, ↓x_bTT, ↓x_blAA, ↓x_blAL, ↓x_bmA, ↓x_blLA, ↓x_blLL, ↓x_bmL, ↓x_blRA, ↓x_blRL, ↓x_blRR, ↓x_blAR, ↓x_blLR, ↓x_binIp, ↓x_binIs, ↓x_binIm, ↓x_binId, ↓x_binIr, ↓x_binAp, ↓x_binAs, ↓x_binAm, ↓x_binAd, ↓x_binAr, ↓x_binIw, ↓x_lt, ↓x_le, ↓x_gt, ↓x_ge, ↓x_eq, ↓x_ne, ↓x_is, ↓x_isn, ↓x_in, ↓x_nin, ↓x_eqI, ↓x_eqT, ↓x_oInt, ↓x_iInt, ↓x_oBl, ↓x_iBl, ↓x_oNon, ↓x_iNon, ↓x_oTup, ↓x_iTup, ↓x_oLst, ↓x_iLst, ↓x_oAl, ↓x_iAl, ↓x_oStr, ↓x_iStr, ↓x_ixR, ↓x_slT, ↓x_slA, ↓x_slL, ↓x_slR, ↓x_sl3R, ↓x_partI, ↓x_partN, ↓x_hdC, ↓x_srT, ↓x_srA, ↓x_srL, ↓x_srR, ↓x_len, ↓x_abs, ↓x_min, ↓x_max, ↓x_min1, ↓x_max1, ↓x_sum, ↓x_all, ↓x_any, ↓x_int, ↓x_bool, ↓x_list, ↓x_tuple, ↓x_dm, ↓x_fldR0, ↓x_fldC, ↓x_stIx0, ↓x_stC, ↓x_stFld0, ↓x_stFC, ↓x_agFld0, ↓x_agC, ↓x_mth0, ↓x_mtC, ↓x_apd0, ↓x_bm_remove, ↓x_bm_pop, ↓x_bm_insert, ↓x_bm_reverse, ↓x_bm_clear, ↓x_bmCl, ↓x_cnt, ↓x_idxm, ↓x_bmK, ↓x_ext0, ↓x_exC, ↓x_apC, Bool.true_xor, Bool.false_xor, bfRm, bfP0, bfP1, bfIn, bfRv, bfCl, sqT, sqL, sqA, lsL, lsA, lmL, lmA, lmR, lmCl, cvT, cvF, arN, arP, arK, arD, lkHit, tpTv, tpT, tpL, tpA, tpR, trN, trB, trI, trT, trL, trA, itN, itB, itI, itS, itT, itL, itA, itO, sqR, lsR, lsCl, lsCf, trR, trCl, trCf, itR, itCl, itCf, itCi, gv0, gvS, sv0, svS, uv0, uvS, svsN, svsC, uvsN, uvsC, wGn, wGt, wGsN, wGsC, ctNn, ctNt, ctNsN, ctNsC, st0E, isNN, isBN, isIN, isSN, isTN, isLN, isON, isRN, isAN, isBB, at0, ix0, at1, ix1, at2, ix2, at3, ix3, at4, ix4, at5, ix5, at6, ix6, at7, ix7, atI_map, lkRV, sz0, sz1, sz2, sz3, sz4, sz5, sz6, sz7, sz8, sz9, sz10, sz11, sz12, sz13, sz14, sz15, sz16, ↓hid_val, enum_map, zip_map, rev_map, List.map_cons, List.map_nil, List.length_cons, List.length_nil, List.length_map, List.replicate_succ, List.replicate_zero, List.cons_append, List.nil_append, List.append_nil, Option.bind_some, Option.map_some, Option.isSome_some, Option.isSome_none, reduceCtorEq, Nat.reduceAdd, Nat.reduceSub, Nat.reduceMul, ite_true, ite_false, if_true, if_false, Bool.not_true, Bool.not_false, Bool.not_not, decide_true, decide_false, Bool.false_eq_true, and_true, true_and, len_concat, set_concat, List.set_cons_zero, List.set_cons_succ, List.getD_cons_zero, List.getD_cons_succ, List.take_succ_cons, List.take_zero, List.drop_succ_cons, List.drop_zero, List.getElem?_cons_zero, List.getElem?_cons_succ, ints_map, ints_map', bls_map, or_self, false_or, or_false, true_or, or_true, Nat.zero_add, List.isEmpty_cons, List.isEmpty_nil, lk_rF_many, lk_rF_width, lk_rF_pages, lk_rF_copies, lk_rF_shuts, lk_rF_read, lk_rF_write, lk_rF_need, lk_rF_numbers, lk_rF_own_page, lk_rF_twin, lk_rF_copied, lk_rF_is_shut, lk_rF_shared, lk_pF_kept, lk_pF_holders, lk_vF_held, lk_vF_lengths, lk_vF_begin, lk_vF_steps, lk_vF_tell, lk_vF_room, lk_vF_sides, lk_vF_first, lk_vF_strides, lk_vF_cells, lk_vF_cell, lk_vF_at, lk_vF_put, lk_vF_numbers, lk_vF_nested, lk_vF_twin, lk_vF_copy_of, lk_pZ_kept, lk_pZ_holders, lk_vZ_held, lk_vZ_lengths, lk_vZ_begin, lk_vZ_steps, lk_vZ_tell, lk_vZ_room, lk_vZ_sides, lk_vZ_first, lk_vZ_strides, lk_vZ_cells, lk_vZ_cell, lk_vZ_at, lk_vZ_put, lk_vZ_numbers, lk_vZ_nested, lk_vZ_twin, lk_vZ_copy_of, pt_p_kept, pu_p_kept, pt_p_holders, pu_p_holders, pt_r_many, pu_r_many, pt_r_width, pu_r_width, pt_r_pages, pu_r_pages, pt_r_copies, pu_r_copies, pt_r_shuts, pu_r_shuts, pt_v_held, pu_v_held, pt_v_lengths, pu_v_lengths, pt_v_begin, pu_v_begin, pt_v_steps, pu_v_steps, pr_many, pr_width, pr_pages, pr_copies, pr_shuts, rF_len, List.mem_cons, List.mem_singleton, List.not_mem_nil, Nat.reduceLT, lk_v1_tell, List.set_set, List.getElem?_set_self, get_mid, get_mid2, eq_self, lk_q_kept, lk_q_holders, pr_q_holders, pgF_len])
local macro_rules | `(tactic| walk_at "gc") => `(tactic| first | refine cnd_t (decide_eq_true (by omega)) ?_ | refine cnd_f (decide_eq_false (by omega)) ?_)
local macro_rules | `(tactic| walk_at "gw") => `(tactic| (walk_at "gs"; repeat (walk_at "gc"; walk_at "gs")))
local macro_rules | `(tactic| walk_at "gv") => `(tactic| (walk_at "gs"; repeat ((first | refine ap_room ?_ | refine ap_sides ?_ | refine ap_first ?_ | refine ap_strides ?_); walk_at "gs")))
local macro_rules | `(tactic| walk_at "gu") => `(tactic| (walk_at "gv"; repeat (walk_at "gc"; walk_at "gv")))
local macro_rules | `(tactic| walk_at "gh") => `(tactic| try simp -implicitDefEqProofs only [↓h_oP, ↓h_vr, ↓h_vI, ↓h_cnd, ↓h_eqR, ↓h_inR, ↓h_ap, ↓h_wLoop, ↓h_wComp, ↓h_gcd, ↓h_fldC, ↓h_stC, ↓h_stFC, ↓h_agC, ↓h_mtC, ↓h_exC, ↓h_lenC, ↓h_eqOR, ↓h_eqIR, ↓h_eqMR, ↓h_bmC, ↓h_apC, ↓x_skip, ↓x_seq, ↓x_asg, ↓x_asgT, ↓x_asgS, ↓x_asgD, ↓x_setIx, ↓x_setFld, ↓x_aug, ↓x_augFld, ↓x_ret, ↓x_ex, ↓x_ifS, ↓x_for, ↓x_brk, ↓x_bad, ↓x_badE, ↓x_cont, ↓x_ret0, ↓x_con, ↓x_var, ↓x_thaw, ↓x_cool, ↓x_maxD, ↓x_bin, ↓x_neg, ↓x_nt, ↓x_cmp, ↓x_chn, ↓x_an, ↓x_orr, ↓x_ife, ↓x_tup, ↓x_lst, ↓x_ix, ↓x_sl, ↓x_sl3, ↓x_srev, ↓x_fld, ↓x_call, ↓x_callk, ↓x_newk, ↓x_lrng, ↓x_lnrg, ↓x_lenI, ↓x_cmpO, ↓x_cmpM, ↓x_cmpI, ↓x_lenL, ↓x_lenA, ↓x_lenT, ↓x_lenO, ↓x_lenR, ↓x_lenCi, ↓x_lenCl, ↓x_lenCf, ↓x_new, ↓x_mth, ↓x_blt, ↓x_bm, ↓x_isi, ↓x_lc, ↓x_lc2, ↓x_yes, ↓x_val, ↓x_ntB, ↓x_anB, ↓x_orB, ↓x_oN, ↓x_oS, ↓x_nil, ↓x_cons, ↓x_ival, ↓x_rng1, ↓x_rng2, ↓x_rng3, ↓x_enum, ↓x_enumz, ↓x_zip, ↓x_rev, ↓x_oPs, ↓x_vrs, ↓x_vIs, ↓x_inI, ↓x_inB, ↓x_inV, ↓x_toI, ↓x_toIb, ↓x_toB, ↓x_toBb, ↓x_cT, ↓x_cF, ↓x_cN, ↓x_thwA, ↓x_thwV, ↓x_adV, ↓x_adA, ↓x_asN, ↓x_asV, ↓x_asA, ↓x_fldO, ↓x_ixN, ↓x_mthO, ↓x_bII, ↓x_bTI, ↓x_bTT, ↓x_blAA, ↓x_blAL, ↓x_bmA, ↓x_blLA, ↓x_blLL, ↓x_bmL, ↓x_blRA, ↓x_blRL, ↓x_blRR, ↓x_blAR, ↓x_blLR, ↓x_binIp, ↓x_binIs, ↓x_binIm, ↓x_binId, ↓x_binIr, ↓x_binAp, ↓x_binAs, ↓x_binAm, ↓x_binAd, ↓x_binAr, ↓x_binIw, ↓x_lt, ↓x_le, ↓x_gt, ↓x_ge, ↓x_eq, ↓x_ne, ↓x_is, ↓x_isn, ↓x_in, ↓x_nin, ↓x_eqI, ↓x_eqT, ↓x_oInt, ↓x_iInt, ↓x_oBl, ↓x_iBl, ↓x_oNon, ↓x_iNon, ↓x_oTup, ↓x_iTup, ↓x_oLst, ↓x_iLst, ↓x_oAl, ↓x_iAl, ↓x_oStr, ↓x_iStr, ↓x_ixR, ↓x_slT, ↓x_slA, ↓x_slL, ↓x_slR, ↓x_sl3R, ↓x_partI, ↓x_partN, ↓x_hdC, ↓x_srT, ↓x_srA, ↓x_srL, ↓x_srR, ↓x_len, ↓x_abs, ↓x_min, ↓x_max, ↓x_min1, ↓x_max1, ↓x_sum, ↓x_all, ↓x_any, ↓x_int, ↓x_bool, ↓x_list, ↓x_tuple, ↓x_dm, ↓x_fldR0, ↓x_fldC, ↓x_stIx0, ↓x_stC, ↓x_stFld0, ↓x_stFC, ↓x_agFld0, ↓x_agC, ↓x_mth0, ↓x_mtC, ↓x_apd0, ↓x_bm_remove, ↓x_bm_pop, ↓x_bm_insert, ↓x_bm_reverse, ↓x_bm_clear, ↓x_bmCl, ↓x_cnt, ↓x_idxm, ↓x_bmK, ↓x_ext0, ↓x_exC, ↓x_apC, Bool.true_xor, Bool.false_xor, bfRm, bfP0, bfP1, bfIn, bfRv, bfCl, sqT, sqL, sqA, lsL, lsA, lmL, lmA, lmR, lmCl, cvT, cvF, arN, arP, arK, arD, lkHit, tpTv, tpT, tpL, tpA, tpR, trN, trB, trI, trT, trL, trA, itN, itB, itI, itS, itT, itL, itA, itO, sqR, lsR, lsCl, lsCf, trR, trCl, trCf, itR, itCl, itCf, itCi, gv0, gvS, sv0, svS, uv0, uvS, svsN, svsC, uvsN, uvsC, wGn, wGt, wGsN, wGsC, ctNn, ctNt, ctNsN, ctNsC, st0E, isNN, isBN, isIN, isSN, isTN, isLN, isON, isRN, isAN, isBB, at0, ix0, at1, ix1, at2, ix2, at3, ix3, at4, ix4, at5, ix5, at6, ix6, at7, ix7, atI_map, lkRV, sz0, sz1, sz2, sz3, sz4, sz5, sz6, sz7, sz8, sz9, sz10, sz11, sz12, sz13, sz14, sz15, sz16, ↓hid_val, enum_map, zip_map, rev_map, List.map_cons, List.map_nil, List.length_cons, List.length_nil, List.length_map, List.replicate_succ, List.replicate_zero, List.cons_append, List.nil_append, List.append_nil, Option.bind_some, Option.map_some, Option.isSome_some, Option.isSome_none, reduceCtorEq, Nat.reduceAdd, Nat.reduceSub, Nat.reduceMul, ite_true, ite_false, if_true, if_false, Bool.not_true, Bool.not_false, Bool.not_not, decide_true, decide_false, Bool.false_eq_true, and_true, true_and, len_concat, set_concat, List.set_cons_zero, List.set_cons_succ, List.getD_cons_zero, List.getD_cons_succ, List.take_succ_cons, List.take_zero, List.drop_succ_cons, List.drop_zero, List.getElem?_cons_zero, List.getElem?_cons_succ, ints_map, ints_map', bls_map, or_self, false_or, or_false, true_or, or_true, Nat.zero_add, List.isEmpty_cons, List.isEmpty_nil, lk_rF_many, lk_rF_width, lk_rF_pages, lk_rF_copies, lk_rF_shuts, lk_rF_read, lk_rF_write, lk_rF_need, lk_rF_numbers, lk_rF_own_page, lk_rF_twin, lk_rF_copied, lk_rF_is_shut, lk_rF_shared, lk_pF_kept, lk_pF_holders, lk_vF_held, lk_vF_lengths, lk_vF_begin, lk_vF_steps, lk_vF_tell, lk_vF_room, lk_vF_sides, lk_vF_first, lk_vF_strides, lk_vF_cells, lk_vF_cell, lk_vF_at, lk_vF_put, lk_vF_numbers, lk_vF_nested, lk_vF_twin, lk_vF_copy_of, lk_pZ_kept, lk_pZ_holders, lk_vZ_held, lk_vZ_lengths, lk_vZ_begin, lk_vZ_steps, lk_vZ_tell, lk_vZ_room, lk_vZ_sides, lk_vZ_first, lk_vZ_strides, lk_vZ_cells, lk_vZ_cell, lk_vZ_at, lk_vZ_put, lk_vZ_numbers, lk_vZ_nested, lk_vZ_twin, lk_vZ_copy_of, pt_p_kept, pu_p_kept, pt_p_holders, pu_p_holders, pt_r_many, pu_r_many, pt_r_width, pu_r_width, pt_r_pages, pu_r_pages, pt_r_copies, pu_r_copies, pt_r_shuts, pu_r_shuts, pt_v_held, pu_v_held, pt_v_lengths, pu_v_lengths, pt_v_begin, pu_v_begin, pt_v_steps, pu_v_steps, pr_many, pr_width, pr_pages, pr_copies, pr_shuts, rF_len, List.mem_cons, List.mem_singleton, List.not_mem_nil, Nat.reduceLT, lk_v1_tell, List.set_set, List.getElem?_set_self, get_mid, get_mid2, eq_self, lk_q_kept, lk_q_holders, pr_q_holders, pgF_len, *])
/-! ### what comes of the tables -/
theorem new_tab {c : Cn} {h : CH} {W : GW} {o : Own} (w : Wd c h W o) {ns : List Int} {wd : Nat} (w0 : 0 < wd) : (W.new h.length ns wd).tab = W.tab ++ [ns] := by
  have hold : ∀ q, q < h.length → (W.new h.length ns wd).pg q = W.pg q := fun q l => if_neg (by omega)
  unfold GW.tab
  show (W.rs ++ [_]).map _ = _
  rw [List.map_append]
  congr 1
  · refine List.map_congr_left fun S hS => nums_congr fun q hq => ?_
    obtain ⟨j, hj⟩ := List.mem_iff_getElem?.mp hS
    rw [hold q (w.lt q (by rw [(w.pg j S q hj hq).op]; simp))]
  · show [(W.new h.length ns wd).nums _] = _
    congr 1
    unfold GW.nums
    rw [List.flatMap_def]
    have : (newRefs (h.length + 1) (chunk wd ns).length).map (fun p => ((W.new h.length ns wd).pg p).ns) = chunk wd ns := by
      apply List.ext_getElem?
      intro i
      rw [List.getElem?_map]
      by_cases l : i < (chunk wd ns).length
      · rw [refs_get l, List.getElem?_eq_getElem l]
        show some ((if h.length < h.length + 1 + 2 * i + 1 then _ else _ : PG)).ns = _
        rw [if_pos (by omega), show (h.length + 1 + 2 * i + 1 - h.length - 2) / 2 = i by omega, List.getElem?_eq_getElem l]
        rfl
      · rw [List.getElem?_eq_none (show (chunk wd ns).length ≤ i by omega), List.getElem?_eq_none (show (newRefs (h.length + 1) (chunk wd ns).length).length ≤ i by simp [newRefs]; omega)]
        rfl
    show List.flatten ((newRefs (h.length + 1) (chunk wd ns).length).map fun p => ((W.new h.length ns wd).pg p).ns) = ns
    rw [this, chunk_flat w0]
theorem twn_tab {W : GW} {n : Nat} {R : RG} : (W.twn n R).tab = W.tab ++ [W.nums R] := by
  have hns : ∀ q, ((W.twn n R).pg q).ns = (W.pg q).ns := fun q => by
    show (if q ∈ R.ps then _ else _ : PG).ns = _
    split <;> rfl
  unfold GW.tab
  show (W.rs ++ [_]).map _ = _
  rw [List.map_append]
  congr 1
  · exact List.map_congr_left fun S hS => nums_congr fun q hq => hns q
  · show [(W.twn n R).nums _] = _
    congr 1
    exact nums_congr (R := R) fun q hq => hns q
/-- what a room stays -/
def RG.sk (R : RG) : Nat × Nat × Nat × Int := (R.r, R.m, R.w, R.sh)
theorem put_sk {W : GW} {n i : Nat} {R : RG} (hi : W.rs[i]? = some R) {cell : Nat} {v : Int} : (W.put n i R cell v).rs.map RG.sk = W.rs.map RG.sk := by
  unfold GW.put
  split
  · rfl
  · split
    · rfl
    · split
      · show (W.rs.set i _).map RG.sk = _
        rw [List.map_set]
        obtain ⟨l, e⟩ := List.getElem?_eq_some_iff.mp hi
        have : RG.sk { R with ps := R.ps.set (cell / R.w) (n + 1), cp := R.cp + 1 } = (W.rs.map RG.sk)[i]'(by simpa using l) := by rw [List.getElem_map, e]; rfl
        rw [this, List.set_getElem_self]
      · rfl
theorem put_tab {c : Cn} {h : CH} {W : GW} {o : Own} (w : Wd c h W o) {i : Nat} {R : RG} (hi : W.rs[i]? = some R) {cell : Nat} {v : Int} (hc : cell < R.m) : (W.put h.length i R cell v).tab = W.tab.set i ((W.nums R).set cell v) := by
  have r := w.rm i R hi
  obtain ⟨p, hp⟩ := room_ok r hc
  have pm := List.mem_of_getElem? hp
  have g := w.pg i R p hi pm
  have li := (List.getElem?_eq_some_iff.mp hi).1
  have ltq : ∀ (j : Nat) (S : RG) (q : Nat), W.rs[j]? = some S → q ∈ S.ps → q < h.length := fun j S q hj hq => w.lt q (by rw [(w.pg j S q hj hq).op]; simp)
  unfold GW.put
  rw [hp]
  dsimp only
  split
  · rename_i z
    have e : (W.nums R).set cell v = W.nums R := by
      obtain ⟨l, e⟩ := List.getElem?_eq_some_iff.mp z
      rw [← e, List.set_getElem_self]
    rw [e]
    have : W.nums R = (W.tab)[i]'(by unfold GW.tab; simpa using li) := by unfold GW.tab; rw [List.getElem_map, (List.getElem?_eq_some_iff.mp hi).2]
    rw [this, List.set_getElem_self]
  · split
    · rename_i z1 z
      obtain ⟨V, hV⟩ : ∃ V, V = W.put2 h.length i R (cell / R.w) p ⟨h.length, (W.pg p).ns.set (cell % R.w) v, 1⟩ := ⟨_, rfl⟩
      rw [← hV]
      have Vn : (V.pg (h.length + 1)).ns = (W.pg p).ns.set (cell % R.w) v := by rw [hV]; show (if _ then _ else _ : PG).ns = _; rw [if_pos rfl]
      have Vq : ∀ q, q < h.length → (V.pg q).ns = (W.pg q).ns := fun q l => by
        rw [hV]; show (if _ then _ else _ : PG).ns = _
        rw [if_neg (by omega)]
        split
        · rename_i e; subst e; rfl
        · rfl
      have pgs := put_pages (V := V) (p2 := h.length + 1) r (v := v) hc hp Vn (fun q hq _ => Vq q (ltq i R q hi hq))
      have nR : V.nums { R with ps := R.ps.set (cell / R.w) (h.length + 1), cp := R.cp + 1 } = (W.nums R).set cell v := rm_flat r pgs
      have e : V.tab = (W.rs.set i { R with ps := R.ps.set (cell / R.w) (h.length + 1), cp := R.cp + 1 }).map V.nums := by rw [hV]; rfl
      rw [e, List.map_set, nR]
      congr 1
      refine List.map_congr_left fun S hS => nums_congr fun q hq => ?_
      obtain ⟨j, hj⟩ := List.mem_iff_getElem?.mp hS
      exact Vq q (ltq j S q hj hq)
    · rename_i z1 z
      obtain ⟨V, hV⟩ : ∃ V, V = W.setPg p { W.pg p with ns := (W.pg p).ns.set (cell % R.w) v } := ⟨_, rfl⟩
      rw [← hV]
      have hold1 : W.hold p ≤ 1 := by have := g.hd; omega
      have e1 : (V.pg p).ns = (W.pg p).ns.set (cell % R.w) v := by rw [hV, setPg_self]
      have e2 : ∀ q, q ≠ p → V.pg q = W.pg q := fun q n => by rw [hV, setPg_ne n]
      have pgs : R.ps.map (fun p => (V.pg p).ns) = chunk R.w ((W.nums R).set cell v) := by
        have := put_pages (V := V) (p2 := p) r (v := v) hc hp e1 (fun q _ n => by rw [e2 q n])
        rwa [show R.ps.set (cell / R.w) p = R.ps by
          obtain ⟨l, e⟩ := List.getElem?_eq_some_iff.mp hp
          rw [← e, List.set_getElem_self]] at this
      have nR : V.nums R = (W.nums R).set cell v := rm_flat r pgs
      have e : V.tab = W.rs.map V.nums := by rw [hV]; rfl
      rw [e]
      apply List.ext_getElem?
      intro j
      rw [List.getElem?_set]
      unfold GW.tab
      rw [List.length_map, List.getElem?_map, List.getElem?_map]
      by_cases ej : i = j
      · subst ej; rw [if_pos rfl, if_pos li, hi]; show some _ = _; rw [nR]
      · rw [if_neg ej]
        cases hj : W.rs[j]? with
        | none => rfl
        | some S =>
          show some _ = some _
          congr 1
          refine nums_congr fun q hq => ?_
          rw [e2 q fun y => ej (hold_one hi hj hold1 pm (y ▸ hq))]
/-! ### rooms by their numbers alone -/
structure Rms (c : Cn) (h : CH) (o : Own) (rs : List Nat) (tab : List (List Int)) : Prop where
  ex : ∃ W, Wd c h W o ∧ W.rs.map RG.r = rs ∧ W.tab = tab ∧ ∀ R ∈ W.rs, R.sh = 0
theorem Rms.of {c : Cn} {h : CH} {o : Own} {rs : List Nat} {tab : List (List Int)} (M : Rms c h o rs tab) {i r : Nat} {ns : List Int} (hr : rs[i]? = some r) (ht : tab[i]? = some ns) : ∃ W R, Wd c h W o ∧ W.rs.map RG.r = rs ∧ W.tab = tab ∧ (∀ R ∈ W.rs, R.sh = 0) ∧ W.rs[i]? = some R ∧ R.r = r ∧ W.nums R = ns := by
  obtain ⟨W, w, e1, e2, e3⟩ := M.ex
  rw [← e1, List.getElem?_map] at hr
  obtain ⟨R, hR, er⟩ := Option.map_eq_some_iff.mp hr
  rw [← e2, tab_get hR] at ht
  exact ⟨W, R, w, e1, e2, e3, hR, er, Option.some.inj ht⟩
theorem Rms.fr {c : Cn} {h h' : CH} {o : Own} {rs : List Nat} {tab : List (List Int)} (M : Rms c h o rs tab) (l : h.length ≤ h'.length) (e : ∀ a, o a ≠ none → h'[a]? = h[a]?) : Rms c h' o rs tab := by
  obtain ⟨W, w, x⟩ := M.ex
  exact ⟨W, w.fr l e, x⟩
theorem Rms.app {c : Cn} {h : CH} {o : Own} {rs : List Nat} {tab : List (List Int)} (M : Rms c h o rs tab) (g : CH) : Rms c (h ++ g) o rs tab := by
  obtain ⟨W, w, x⟩ := M.ex
  exact ⟨W, w.app g, x⟩
theorem Rms.set {c : Cn} {h : CH} {o : Own} {rs : List Nat} {tab : List (List Int)} (M : Rms c h o rs tab) {a : Nat} (x : CO) (ha : o a = none) : Rms c (h.set a x) o rs tab := by
  obtain ⟨W, w, y⟩ := M.ex
  exact ⟨W, w.set x ha, y⟩
theorem Rms.rm {c : Cn} {h : CH} {o : Own} {rs : List Nat} {tab : List (List Int)} (M : Rms c h o rs tab) {i r : Nat} {ns : List Int} (hr : rs[i]? = some r) (ht : tab[i]? = some ns) : Rm c h r ns := by
  obtain ⟨W, R, w, _, _, _, hi, er, en⟩ := M.of hr ht
  rw [← er, ← en]; exact w.rm_ hi
theorem Rms.len {c : Cn} {h : CH} {o : Own} {rs : List Nat} {tab : List (List Int)} (M : Rms c h o rs tab) : rs.length = tab.length := by
  obtain ⟨W, w, e1, e2, _⟩ := M.ex
  rw [← e1, ← e2]; simp [GW.tab]
theorem Rms.ins {c : Cn} {h : CH} {o : Own} {rs : List Nat} {tab : List (List Int)} (M : Rms c h o rs tab) {i r : Nat} (hr : rs[i]? = some r) : ∃ m w pv cp, h[r]? = some (.ins c.Room (rF m w pv cp 0)) ∧ o r = some (0, i) ∧ r < h.length := by
  have lt : i < tab.length := by rw [← M.len]; exact (List.getElem?_eq_some_iff.mp hr).1
  obtain ⟨W, R, w, _, _, e3, hi, er, en⟩ := M.of hr (List.getElem?_eq_getElem lt)
  have q := w.rm i R hi
  have := e3 R (List.mem_of_getElem? hi)
  rw [← er]
  exact ⟨_, _, _, _, by rw [← this]; exact q.at_, q.or, w.lt _ (by rw [q.or]; simp)⟩
end G

namespace G
open PySem PySem.Spec PyProof.Rows L2
local macro_rules | `(tactic| walk_at "gs") => `(tactic| try simp -implicitDefEqProofs only [↓h_oP, ↓h_vr, ↓h_vI, ↓h_cnd, ↓h_eqR, ↓h_inR, ↓h_ap, ↓h_wLoop, ↓h_wComp, ↓h_gcd, ↓h_fldC, ↓h_stC, ↓h_stFC, ↓h_agC, ↓h_mtC, ↓h_exC, ↓h_lenC, ↓h_eqOR, ↓h_eqIR, ↓h_eqMR, ↓h_bmC, ↓h_apC, ↓x_skip, ↓x_seq, ↓x_asg, ↓x_asgT, ↓x_asgS, ↓x_asgD, ↓x_setIx, ↓x_setFld, ↓x_aug, ↓x_augFld, ↓x_ret, ↓x_ex, ↓x_ifS, ↓x_for, ↓x_brk, ↓x_bad, ↓x_badE, ↓x_cont, ↓x_ret0, ↓x_con, ↓x_var, ↓x_thaw, ↓x_cool, ↓x_maxD, ↓x_bin, ↓x_neg, ↓x_nt, ↓x_cmp, ↓x_chn, ↓x_an, ↓x_orr, ↓x_ife, ↓x_tup, ↓x_lst, ↓x_ix, ↓x_sl, ↓x_sl3, ↓x_srev, ↓x_fld, ↓x_call, ↓x_callk, ↓x_newk, ↓x_lrng, ↓x_lnrg, ↓x_lenI, ↓x_cmpO, ↓x_cmpM, ↓x_cmpI, ↓x_lenL, ↓x_lenA, ↓x_lenT, ↓x_lenO, ↓x_lenR, ↓x_lenCi, ↓x_lenCl, ↓x_lenCf, ↓x_new, ↓x_mth, ↓x_blt, ↓x_bm, ↓x_isi, ↓x_lc, ↓x_lc2, ↓x_yes, ↓x_val, ↓x_ntB, ↓x_anB, ↓x_orB, ↓x_oN, ↓x_oS, ↓x_nil, ↓x_cons, ↓x_ival, ↓x_rng1, ↓x_rng2, ↓x_rng3, ↓x_enum, ↓x_enumz, ↓x_zip, ↓x_rev, ↓x_oPs, ↓x_vrs, ↓x_vIs, ↓x_inI, ↓x_inB, ↓x_inV, ↓x_toI, ↓x_toIb, ↓x_toB, ↓x_toBb, ↓x_cT, ↓x_cF, ↓x_cN, ↓x_thwA, ↓x_thwV, ↓x_adV, ↓x_adA, ↓x_asN, ↓x_asV, ↓x_asA, ↓x_fldO, ↓x_ixN, ↓x_mthO, ↓x_bII, ↓x_bTI, ↓x_bTT, ↓x_blAA, ↓x_blAL, ↓x_bmA, ↓x_blLA, ↓x_blLL, ↓x_bmL, ↓x_blRA, ↓x_blRL, ↓x_blRR, ↓x_blAR, ↓x_blLR, ↓x_binIp, ↓x_binIs, ↓x_binIm, ↓x_binId, ↓x_binIr, ↓x_binAp, ↓x_binAs, ↓x_binAm, ↓x_binAd, ↓x_binAr, ↓x_binIw, ↓x_lt, ↓x_le, ↓x_gt, ↓x_ge, ↓x_eq, ↓x_ne, ↓x_is, ↓x_isn, ↓x_in, ↓x_nin, ↓x_eqI, ↓x_eqT, ↓x_oInt, ↓x_iInt, ↓x_oBl, ↓x_iBl, ↓x_oNon, ↓x_iNon, ↓x_oTup, ↓x_iTup, ↓x_oLst, ↓x_iLst, ↓x_oAl, ↓x_iAl, ↓x_oStr, ↓x_iStr, ↓x_ixR, ↓x_slT, ↓x_slA, ↓x_slL, ↓x_slR, ↓x_sl3R, ↓x_partI, ↓x_partN, ↓x_hdC, ↓x_srT, ↓x_srA, ↓x_srL, ↓x_srR, ↓x_len, ↓x_abs, ↓x_min, ↓x_max, ↓x_min1, ↓x_max1, ↓x_sum, ↓x_all, ↓x_any, ↓x_int, ↓x_bool, ↓x_list, ↓x_tuple, ↓x_dm, ↓x_fldR0, ↓x_fldC, ↓x_stIx0, ↓x_stC, ↓x_stFld0, ↓x_stFC, ↓x_agFld0, ↓x_agC, ↓x_mth0, ↓x_mtC, ↓x_apd0, ↓x_bm_remove, ↓x_bm_pop, ↓x_bm_insert, ↓x_bm_reverse, ↓x_bm_clear, ↓x_bmCl, ↓x_cnt, ↓x_idxm, ↓x_bmK, ↓x_ext0, ↓x_exC, ↓x_apC, Bool.true_xor, Bool.false_xor, bfRm, bfP0, bfP1, bfIn, bfRv, bfCl, sqT, sqL, sqA, lsL, lsA, lmL, lmA, lmR, lmCl, cvT, cvF, arN, arP, arK, arD, lkHit, tpTv, tpT, tpL, tpA, tpR, trN, trB, trI, trT, trL, trA, itN, itB, itI, itS, itT, itL, itA, itO, sqR, lsR, lsCl, lsCf, trR, trCl, trCf, itR, itCl, itCf, itCi, gv0, gvS, sv0, svS, uv0, uvS, svsN, svsC, uvsN, uvsC, wGn, wGt, wGsN, wGsC, ctNn, ctNt, ctNsN, ctNsC, st0E, isNN, isBN, isIN, isSN, isTN, isLN, isON, isRN, isAN, isBB, at0, ix0, at1, ix1, at2, ix2, at3, ix3, at4, ix4, at5, ix5, at6, ix6, at7, ix7, atI_map, lkRV, sz0, sz1, sz2, sz3, sz4, sz5, sz6, sz7, sz8, sz9, sz10, sz11, sz12, sz13, sz14, sz15, sz16, ↓hid_val, enum_map, zip_map, rev_map, List.map_cons, List.map_nil, List.length_cons, List.length_nil, List.length_map, List.replicate_succ, List.replicate_zero, List.cons_append, List.nil_append, List.append_nil, Option.bind_some, Option.map_some, Option.isSome_some, Option.isSome_none, reduceCtorEq, Nat.reduceAdd, Nat.reduceSub, Nat.reduceMul, ite_true, ite_false, if_true, if_false, Bool.not_true, Bool.not_false, Bool.not_not, decide_true, decide_false, Bool.false_eq_true, and_true, true_and, len_concat, set_concat, List.set_cons_zero, List.set_cons_succ, List.getD_cons_zero, List.getD_cons_succ, List.take_succ_cons, List.take_zero, List.drop_succ_cons, List.drop_zero, List.getElem?_cons_zero, List.getElem?_cons_succ, ints_map, ints_map', bls_map, or_self, false_or, or_false, true_or, or_true, Nat.zero_add, List.isEmpty_cons, List.isEmpty_nil])
local macro_rules | `(tactic| walk_at "gc") => `(tactic| first | refine cnd_t (decide_eq_true (by omega)) ?_ | refine cnd_f (decide_eq_false (by omega)) ?_)
local macro_rules | `(tactic| walk_at "gw") => `(tactic| (walk_at "gs"; repeat (walk_at "gc"; walk_at "gs")))
local macro_rules | `(tactic| walk_at "gh") => `(tactic| try simp -implicitDefEqProofs only [↓h_oP, ↓h_vr, ↓h_vI, ↓h_cnd, ↓h_eqR, ↓h_inR, ↓h_ap, ↓h_wLoop, ↓h_wComp, ↓h_gcd, ↓h_fldC, ↓h_stC, ↓h_stFC, ↓h_agC, ↓h_mtC, ↓h_exC, ↓h_lenC, ↓h_eqOR, ↓h_eqIR, ↓h_eqMR, ↓h_bmC, ↓h_apC, ↓x_skip, ↓x_seq, ↓x_asg, ↓x_asgT, ↓x_asgS, ↓x_asgD, ↓x_setIx, ↓x_setFld, ↓x_aug, ↓x_augFld, ↓x_ret, ↓x_ex, ↓x_ifS, ↓x_for, ↓x_brk, ↓x_bad, ↓x_badE, ↓x_cont, ↓x_ret0, ↓x_con, ↓x_var, ↓x_thaw, ↓x_cool, ↓x_maxD, ↓x_bin, ↓x_neg, ↓x_nt, ↓x_cmp, ↓x_chn, ↓x_an, ↓x_orr, ↓x_ife, ↓x_tup, ↓x_lst, ↓x_ix, ↓x_sl, ↓x_sl3, ↓x_srev, ↓x_fld, ↓x_call, ↓x_callk, ↓x_newk, ↓x_lrng, ↓x_lnrg, ↓x_lenI, ↓x_cmpO, ↓x_cmpM, ↓x_cmpI, ↓x_lenL, ↓x_lenA, ↓x_lenT, ↓x_lenO, ↓x_lenR, ↓x_lenCi, ↓x_lenCl, ↓x_lenCf, ↓x_new, ↓x_mth, ↓x_blt, ↓x_bm, ↓x_isi, ↓x_lc, ↓x_lc2, ↓x_yes, ↓x_val, ↓x_ntB, ↓x_anB, ↓x_orB, ↓x_oN, ↓x_oS, ↓x_nil, ↓x_cons, ↓x_ival, ↓x_rng1, ↓x_rng2, ↓x_rng3, ↓x_enum, ↓x_enumz, ↓x_zip, ↓x_rev, ↓x_oPs, ↓x_vrs, ↓x_vIs, ↓x_inI, ↓x_inB, ↓x_inV, ↓x_toI, ↓x_toIb, ↓x_toB, ↓x_toBb, ↓x_cT, ↓x_cF, ↓x_cN, ↓x_thwA, ↓x_thwV, ↓x_adV, ↓x_adA, ↓x_asN, ↓x_asV, ↓x_asA, ↓x_fldO, ↓x_ixN, ↓x_mthO, ↓x_bII, ↓x_bTI, ↓x_bTT, ↓x_blAA, ↓x_blAL, ↓x_bmA, ↓x_blLA, ↓x_blLL, ↓x_bmL, ↓x_blRA, ↓x_blRL, ↓x_blRR, ↓x_blAR, ↓x_blLR, ↓x_binIp, ↓x_binIs, ↓x_binIm, ↓x_binId, ↓x_binIr, ↓x_binAp, ↓x_binAs, ↓x_binAm, ↓x_binAd, ↓x_binAr, ↓x_binIw, ↓x_lt, ↓x_le, ↓x_gt, ↓x_ge, ↓x_eq, ↓x_ne, ↓x_is, ↓x_isn, ↓x_in, ↓x_nin, ↓x_eqI, ↓x_eqT, ↓x_oInt, ↓x_iInt, ↓x_oBl, ↓x_iBl, ↓x_oNon, ↓x_iNon, ↓x_oTup, ↓x_iTup, ↓x_oLst, ↓x_iLst, ↓x_oAl, ↓x_iAl, ↓x_oStr, ↓x_iStr, ↓x_ixR, ↓x_slT, ↓x_slA, ↓x_slL, ↓x_slR, ↓x_sl3R, ↓x_partI, ↓x_partN, ↓x_hdC, ↓x_srT, ↓x_srA, ↓x_srL, ↓x_srR, ↓x_len, ↓x_abs, ↓x_min, ↓x_max, ↓x_min1, ↓x_max1, ↓x_sum, ↓x_all, ↓x_any, ↓x_int, ↓x_bool, ↓x_list, ↓x_tuple, ↓x_dm, ↓x_fldR0, ↓x_fldC, ↓x_stIx0, ↓x_stC, ↓x_stFld0, ↓x_stFC, ↓x_agFld0, ↓x_agC, ↓x_mth0, ↓x_mtC, ↓x_apd0, ↓x_bm_remove, ↓x_bm_pop, ↓x_bm_insert, ↓x_bm_reverse, ↓x_bm_clear, ↓x_bmCl, ↓x_cnt, ↓x_idxm, ↓x_bmK, ↓x_ext0, ↓x_exC, ↓x_apC, Bool.true_xor, Bool.false_xor, bfRm, bfP0, bfP1, bfIn, bfRv, bfCl, sqT, sqL, sqA, lsL, lsA, lmL, lmA, lmR, lmCl, cvT, cvF, arN, arP, arK, arD, lkHit, tpTv, tpT, tpL, tpA, tpR, trN, trB, trI, trT, trL, trA, itN, itB, itI, itS, itT, itL, itA, itO, sqR, lsR, lsCl, lsCf, trR, trCl, trCf, itR, itCl, itCf, itCi, gv0, gvS, sv0, svS, uv0, uvS, svsN, svsC, uvsN, uvsC, wGn, wGt, wGsN, wGsC, ctNn, ctNt, ctNsN, ctNsC, st0E, isNN, isBN, isIN, isSN, isTN, isLN, isON, isRN, isAN, isBB, at0, ix0, at1, ix1, at2, ix2, at3, ix3, at4, ix4, at5, ix5, at6, ix6, at7, ix7, atI_map, lkRV, sz0, sz1, sz2, sz3, sz4, sz5, sz6, sz7, sz8, sz9, sz10, sz11, sz12, sz13, sz14, sz15, sz16, ↓hid_val, enum_map, zip_map, rev_map, List.map_cons, List.map_nil, List.length_cons, List.length_nil, List.length_map, List.replicate_succ, List.replicate_zero, List.cons_append, List.nil_append, List.append_nil, Option.bind_some, Option.map_some, Option.isSome_some, Option.isSome_none, reduceCtorEq, Nat.reduceAdd, Nat.reduceSub, Nat.reduceMul, ite_true, ite_false, if_true, if_false, Bool.not_true, Bool.not_false, Bool.not_not, decide_true, decide_false, Bool.false_eq_true, and_true, true_and, len_concat, set_concat, List.set_cons_zero, List.set_cons_succ, List.getD_cons_zero, List.getD_cons_succ, List.take_succ_cons, List.take_zero, List.drop_succ_cons, List.drop_zero, List.getElem?_cons_zero, List.getElem?_cons_succ, ints_map, ints_map', bls_map, or_self, false_or, or_false, true_or, or_true, Nat.zero_add, List.isEmpty_cons, List.isEmpty_nil, *])
/-! ### the script's cell, the bag of draws -/
/-- what a draw's bag holds -/
def BagOk (a b : Int) : Prop := 0 ≤ a ∧ 0 ≤ b ∧ (b ≠ 0 → a < 2 ^ 31)
def sp_law_cell : Spec := fun cs h k _ => ∃ (l : Nat) (ns : List Int) (i : Int), cs = [.ref l, .int i] ∧ h[l]? = some (.fro (ns.map .int)) ∧ 0 ≤ i ∧ ∀ z, k (.v (.int z)) h
/-- _law_cell: 0 _law_script, 1 _law_k -/
def ir_law_cell : CS := .seq (.ife (.val (.cmp .Lt (.var 1) (.blt .len (.cons (.var 0) (.nil))))) (.ret (.ix (.var 0) (.var 1))) (.skip)) (.ret (.con (.int 0)))
theorem w_law_cell : ∀ cs h k E, sp_law_cell cs h k E → cs.length = 2 → clH h → clVs h.length cs → wS ir_law_cell (ret0 h k E) (st0 2 cs) h := by
  rintro _ h k E ⟨l, ns, i, rfl, hl, h0, hk⟩ _ _ _
  unfold ir_law_cell
  walk_at "gh"
  refine cnd_dec (fun z => ?_) (fun z => ?_)
  · obtain ⟨v, hv, _⟩ := atI_in h0 z
    walk_at "gh"
    exact gc_same (hk v)
  · walk_at "gs"
    exact gc_same (hk 0)
theorem cp10 {j : Int} (h0 : 0 ≤ j) (h1 : j ≤ 100) : CPow 10 j := ⟨h0, by omega, by decide⟩
theorem cp5 {i : Int} (h0 : 0 ≤ i) (h1 : i < 2 ^ 31) : CPow i 5 := ⟨by decide, by decide, by omega⟩
theorem cml {i j : Int} (h : -(2 ^ 64) < i ∧ i < 2 ^ 64) : CMul i j ∨ (i.natAbs < 2 ^ 1000 ∧ j.natAbs < 2 ^ 1000) := .inl (.inl h)
theorem m60 : CMul (10 ^ Int.toNat 60) (10 ^ Int.toNat 60) ∨ (10 ^ Int.toNat 60 : Int).natAbs < 2 ^ 1000 ∧ (10 ^ Int.toNat 60 : Int).natAbs < 2 ^ 1000 := .inr ⟨by decide +kernel, by decide +kernel⟩
theorem m120 : CMul (10 ^ Int.toNat 60 * 10 ^ Int.toNat 60) (10 ^ Int.toNat 60) ∨ (10 ^ Int.toNat 60 * 10 ^ Int.toNat 60 : Int).natAbs < 2 ^ 1000 ∧ (10 ^ Int.toNat 60 : Int).natAbs < 2 ^ 1000 := .inr ⟨by decide +kernel, by decide +kernel⟩
theorem p180 : (0 : Int) < 10 ^ Int.toNat 60 * 10 ^ Int.toNat 60 * 10 ^ Int.toNat 60 := by decide +kernel
theorem bag0 {M a : Int} (h : 0 < M) : BagOk (a % M) 0 := ⟨Int.emod_nonneg _ (by omega), by omega, fun z => absurd rfl z⟩
theorem bag1 {a b : Int} (h : 0 ≤ b) : BagOk (a % 2147483647) b := ⟨by omega, h, fun _ => by omega⟩
/-- _law_bag: 0 _law_script, 1 _law_at, 2 _law_cell_here, 3 _law_mix, 4 _law_k -/
def sp_law_bag_c7a2 : Spec := fun cs h k _ => ∃ (l : Nat) (ns : List Int) (i : Int), cs = [.ref l, .int i] ∧ h[l]? = some (.fro (ns.map .int)) ∧ ns.length ≤ 63 ∧ 0 ≤ i ∧ ∀ a b, BagOk a b → k (.al [.int a, .int b]) h
def ir_law_bag_c7a2 : CS := .seq (.asg 2 (.bin .Mod (.blt .abs (.cons (.call sp_law_cell 2 [] (.cons (.var 0) (.cons (.var 1) (.nil)))) (.nil))) (.bin .Mult (.bin .Mult (.bin .Pow (.con (.int 10)) (.con (.int 60))) (.bin .Pow (.con (.int 10)) (.con (.int 60)))) (.bin .Pow (.con (.int 10)) (.con (.int 60)))))) (.seq (.ife (.val (.cmp .GtE (.var 2) (.bin .Pow (.con (.int 10)) (.con (.int 18))))) (.ret (.lst (.cons (.var 2) (.cons (.con (.int 0)) (.nil))))) (.skip)) (.seq (.asg 3 (.bin .Mod (.bin .Add (.bin .Add (.var 2) (.bin .Mult (.con (.int 7919)) (.var 1))) (.con (.int 17))) (.con (.int 2147483647)))) (.seq (.forr (.name 4) (.rng1 (.blt .min (.cons (.blt .len (.cons (.var 0) (.nil))) (.cons (.con (.int 9)) (.nil))))) (.asg 3 (.bin .Mod (.bin .Add (.bin .Add (.bin .Pow (.var 3) (.con (.int 5))) (.bin .Mod (.ix (.var 0) (.var 4)) (.con (.int 2147483629)))) (.bin .Mult (.con (.int 31)) (.var 4))) (.con (.int 2147483647))))) (.ret (.lst (.cons (.var 3) (.cons (.con (.int 1)) (.nil))))))))
theorem w_law_bag_c7a2 : ∀ cs h k E, sp_law_bag_c7a2 cs h k E → cs.length = 2 → clH h → clVs h.length cs → wS ir_law_bag_c7a2 (ret0 h k E) (st0 5 cs) h := by
  rintro _ h k E ⟨l, ns, i, rfl, hl, hn, h0, hk⟩ _ _ _
  unfold ir_law_bag_c7a2
  walk_at "gs"
  refine ⟨l, ns, i, rfl, hl, h0, fun z => ?_⟩
  walk_at "gs"
  have pM := p180
  generalize (10 : Int) ^ Int.toNat 60 * 10 ^ Int.toNat 60 * 10 ^ Int.toNat 60 = M at pM ⊢
  refine ⟨cp10 (by decide) (by decide), cp10 (by decide) (by decide), m60, cp10 (by decide) (by decide), m120, pM, cp10 (by decide) (by decide), ?_⟩
  generalize (if z < 0 then -z else z) = y
  refine cnd_dec (fun _ => ?_) (fun _ => ?_)
  · walk_at "gs"
    exact gc_same (hk _ _ (bag0 pM))
  · walk_at "gh"
    refine ⟨cml (by decide), by decide, ⟨by split <;> omega, by split <;> omega⟩, ?_⟩
    refine loop_map (fun d σ h' => h' = h ∧ ∃ m v, 0 ≤ m ∧ m < 2147483647 ∧ σ = [some (.ref l), some (.int i), some (.int (y % M)), some (.int m), v]) ⟨rfl, _, none, by omega, by omega, rfl⟩ (fun _ _ _ _ _ _ => trivial) ?_ ?_
    · rintro d n r _ _ e ⟨rfl, m, v, m0, m1, rfl⟩
      have hr : n < (if 9 < (ns.length : Int) then 9 else (ns.length : Int)).toNat := List.mem_range.mp (by rw [e]; simp)
      have hn2 : (n : Int) < ns.length := by split at hr <;> omega
      obtain ⟨v, hv, _⟩ := atI_in (xs := ns) (i := (n : Int)) (by omega) hn2
      walk_at "gh"
      exact ⟨cp5 m0 (by omega), by decide, cml (by decide), by decide, _, _, by omega, by omega, rfl⟩
    · rintro _ _ ⟨rfl, m, v, m0, m1, rfl⟩
      walk_at "gs"
      exact gc_same (hk _ _ ⟨m0, by decide, fun _ => by omega⟩)
/-- _law_take: 0 _law_bag_here, 1 _law_many, 2 _law_digit -/
def sp_law_take_6e13 : Spec := fun cs h k _ => ∃ (l : Nat) (a b m : Int), cs = [.ref l, .int m] ∧ h[l]? = some (.lst [.int a, .int b]) ∧ BagOk a b ∧ 0 < m ∧ m < 2 ^ 120 ∧ ∀ a' b' r, BagOk a' b' → 0 ≤ r → r < m → k (.v (.int r)) (h.set l (.lst [.int a', .int b']))
def ir_law_take_6e13 : CS := .seq (.ife (.val (.cmp .Eq (.ix (.var 0) (.con (.int 1))) (.con (.int 0)))) (.seq (.asg 2 (.bin .Mod (.ix (.var 0) (.con (.int 0))) (.var 1))) (.seq (.setIx (.var 0) (.con (.int 0)) (.bin .FloorDiv (.ix (.var 0) (.con (.int 0))) (.var 1))) (.ret (.var 2)))) (.skip)) (.seq (.setIx (.var 0) (.con (.int 0)) (.bin .Mod (.bin .Add (.bin .Add (.bin .Pow (.ix (.var 0) (.con (.int 0))) (.con (.int 5))) (.bin .Mult (.con (.int 48271)) (.ix (.var 0) (.con (.int 1))))) (.con (.int 11))) (.con (.int 2147483647)))) (.seq (.setIx (.var 0) (.con (.int 1)) (.bin .Add (.ix (.var 0) (.con (.int 1))) (.con (.int 1)))) (.ret (.bin .Mod (.bin .FloorDiv (.bin .Mod (.bin .Mult (.ix (.var 0) (.con (.int 0))) (.con (.int 69621))) (.con (.int 2147483629))) (.con (.int 8))) (.var 1)))))
theorem w_law_take_6e13 : ∀ cs h k E, sp_law_take_6e13 cs h k E → cs.length = 2 → clH h → clVs h.length cs → wS ir_law_take_6e13 (ret0 h k E) (st0 3 cs) h := by
  rintro _ h k E ⟨l, a, b, m, rfl, hl, hb, m0, m1, hk⟩ _ _ _
  have lt : l < h.length := (List.getElem?_eq_some_iff.mp hl).1
  have hs : ∀ o, (h.set l o)[l]? = some o := fun o => List.getElem?_set_self lt
  have ss : ∀ o o', (h.set l o).set l o' = h.set l o' := fun o o' => List.set_set ..
  unfold ir_law_take_6e13
  walk_at "gh"
  refine cnd_dec (fun z => ?_) (fun z => ?_)
  · subst z
    walk_at "gh"
    refine ⟨⟨m0, by omega⟩, gc_same ?_⟩
    exact hk _ _ _ ⟨Int.ediv_nonneg hb.1 (by omega), by decide, fun z => absurd rfl z⟩ (Int.emod_nonneg _ (by omega)) (Int.emod_lt_of_pos _ m0)
  · walk_at "gh"
    have q1 : ∀ x : Int, -(2 ^ 64) < x % 2147483647 ∧ x % 2147483647 < 2 ^ 64 := fun x => by omega
    refine ⟨cp5 hb.1 (hb.2.2 z), cml (by decide), by decide, cml (q1 _), by decide, ⟨by decide, by decide⟩, gc_same ?_⟩
    exact hk _ _ _ (bag1 (by have := hb.2.1; omega)) (Int.emod_nonneg _ (by omega)) (Int.emod_lt_of_pos _ m0)
end G

namespace G
open PySem PySem.Spec PyProof.Rows L2
local macro_rules | `(tactic| walk_at "gs") => `(tactic| try simp -implicitDefEqProofs only [↓h_oP, ↓h_vr, ↓h_vI, ↓h_cnd, ↓h_eqR, ↓h_inR, ↓h_ap, ↓h_wLoop, ↓h_wComp, ↓h_gcd, ↓h_fldC, ↓h_stC, ↓h_stFC, ↓h_agC, ↓h_mtC, ↓h_exC, ↓h_lenC, ↓h_eqOR, ↓h_eqIR, ↓h_eqMR, ↓h_bmC, ↓h_apC, ↓x_skip, ↓x_seq, ↓x_asg, ↓x_asgT, ↓x_asgS, ↓x_asgD, ↓x_setIx, ↓x_setFld, ↓x_aug, ↓x_augFld, ↓x_ret, ↓x_ex, ↓x_ifS, ↓x_for, ↓x_brk, ↓x_bad, ↓x_badE, ↓x_cont, ↓x_ret0, ↓x_con, ↓x_var, ↓x_thaw, ↓x_cool, ↓x_maxD, ↓x_bin, ↓x_neg, ↓x_nt, ↓x_cmp, ↓x_chn, ↓x_an, ↓x_orr, ↓x_ife, ↓x_tup, ↓x_lst, ↓x_ix, ↓x_sl, ↓x_sl3, ↓x_srev, ↓x_fld, ↓x_call, ↓x_callk, ↓x_newk, ↓x_lrng, ↓x_lnrg, ↓x_lenI, ↓x_cmpO, ↓x_cmpM, ↓x_cmpI, ↓x_lenL, ↓x_lenA, ↓x_lenT, ↓x_lenO, ↓x_lenR, ↓x_lenCi, ↓x_lenCl, ↓x_lenCf, ↓x_new, ↓x_mth, ↓x_blt, ↓x_bm, ↓x_isi, ↓x_lc, ↓x_lc2, ↓x_yes, ↓x_val, ↓x_ntB, ↓x_anB, ↓x_orB, ↓x_oN, ↓x_oS, ↓x_nil, ↓x_cons, ↓x_ival, ↓x_rng1, ↓x_rng2, ↓x_rng3, ↓x_enum, ↓x_enumz, ↓x_zip, ↓x_rev, ↓x_oPs, ↓x_vrs, ↓x_vIs, ↓x_inI, ↓x_inB, ↓x_inV, ↓x_toI, ↓x_toIb, ↓x_toB, ↓x_toBb, ↓x_cT, ↓x_cF, ↓x_cN, ↓x_thwA, ↓x_thwV, ↓x_adV, ↓x_adA, ↓x_asN, ↓x_asV, ↓x_asA, ↓x_fldO, ↓x_ixN, ↓x_mthO, ↓x_bII, ↓x_bTI, ↓x_bTT, ↓x_blAA, ↓x_blAL, ↓x_bmA, ↓x_blLA, ↓x_blLL, ↓x_bmL, ↓x_blRA, ↓x_blRL, ↓x_blRR, ↓x_blAR, ↓x_blLR, ↓x_binIp, ↓x_binIs, ↓x_binIm, ↓x_binId, ↓x_binIr, ↓x_binAp, ↓x_binAs, ↓x_binAm, ↓x_binAd, ↓x_binAr, ↓x_binIw, ↓x_lt, ↓x_le, ↓x_gt, ↓x_ge, ↓x_eq, ↓x_ne, ↓x_is, ↓x_isn, ↓x_in, ↓x_nin, ↓x_eqI, ↓x_eqT, ↓x_oInt, ↓x_iInt, ↓x_oBl, ↓x_iBl, ↓x_oNon, ↓x_iNon, ↓x_oTup, ↓x_iTup, ↓x_oLst, ↓x_iLst, ↓x_oAl, ↓x_iAl, ↓x_oStr, ↓x_iStr, ↓x_ixR, ↓x_slT, ↓x_slA, ↓x_slL, ↓x_slR, ↓x_sl3R, ↓x_partI, ↓x_partN, ↓x_hdC, ↓x_srT, ↓x_srA, ↓x_srL, ↓x_srR, ↓x_len, ↓x_abs, ↓x_min, ↓x_max, ↓x_min1, ↓x_max1, ↓x_sum, ↓x_all, ↓x_any, ↓x_int, ↓x_bool, ↓x_list, ↓x_tuple, ↓x_dm, ↓x_fldR0, ↓x_fldC, ↓x_stIx0, ↓x_stC, ↓x_stFld0, ↓x_stFC, ↓x_agFld0, ↓x_agC, ↓x_mth0, ↓x_mtC, ↓x_apd0, ↓x_bm_remove, ↓x_bm_pop, ↓x_bm_insert, ↓x_bm_reverse, ↓x_bm_clear, ↓x_bmCl, ↓x_cnt, ↓x_idxm, ↓x_bmK, ↓x_ext0, ↓x_exC, ↓x_apC, Bool.true_xor, Bool.false_xor, bfRm, bfP0, bfP1, bfIn, bfRv, bfCl, sqT, sqL, sqA, lsL, lsA, lmL, lmA, lmR, lmCl, cvT, cvF, arN, arP, arK, arD, lkHit, tpTv, tpT, tpL, tpA, tpR, trN, trB, trI, trT, trL, trA, itN, itB, itI, itS, itT, itL, itA, itO, sqR, lsR, lsCl, lsCf, trR, trCl, trCf, itR, itCl, itCf, itCi, gv0, gvS, sv0, svS, uv0, uvS, svsN, svsC, uvsN, uvsC, wGn, wGt, wGsN, wGsC, ctNn, ctNt, ctNsN, ctNsC, st0E, isNN, isBN, isIN, isSN, isTN, isLN, isON, isRN, isAN, isBB, at0, ix0, at1, ix1, at2, ix2, at3, ix3, at4, ix4, at5, ix5, at6, ix6, at7, ix7, atI_map, lkRV, sz0, sz1, sz2, sz3, sz4, sz5, sz6, sz7, sz8, sz9, sz10, sz11, sz12, sz13, sz14, sz15, sz16, ↓hid_val, enum_map, zip_map, rev_map, List.map_cons, List.map_nil, List.length_cons, List.length_nil, List.length_map, List.replicate_succ, List.replicate_zero, List.cons_append, List.nil_append, List.append_nil, Option.bind_some, Option.map_some, Option.isSome_some, Option.isSome_none, reduceCtorEq, Nat.reduceAdd, Nat.reduceSub, Nat.reduceMul, ite_true, ite_false, if_true, if_false, Bool.not_true, Bool.not_false, Bool.not_not, decide_true, decide_false, Bool.false_eq_true, and_true, true_and, len_concat, set_concat, List.set_cons_zero, List.set_cons_succ, List.getD_cons_zero, List.getD_cons_succ, List.take_succ_cons, List.take_zero, List.drop_succ_cons, List.drop_zero, List.getElem?_cons_zero, List.getElem?_cons_succ, ints_map, ints_map', bls_map, or_self, false_or, or_false, true_or, or_true, Nat.zero_add, List.isEmpty_cons, List.isEmpty_nil, lk_rF_many, lk_rF_width, lk_rF_pages, lk_rF_copies, lk_rF_shuts, lk_rF_read, lk_rF_write, lk_rF_need, lk_rF_numbers, lk_rF_own_page, lk_rF_twin, lk_rF_copied, lk_rF_is_shut, lk_rF_shared, lk_pF_kept, lk_pF_holders, lk_vF_held, lk_vF_lengths, lk_vF_begin, lk_vF_steps, lk_vF_tell, lk_vF_room, lk_vF_sides, lk_vF_first, lk_vF_strides, lk_vF_cells, lk_vF_cell, lk_vF_at, lk_vF_put, lk_vF_numbers, lk_vF_nested, lk_vF_twin, lk_vF_copy_of, lk_pZ_kept, lk_pZ_holders, lk_vZ_held, lk_vZ_lengths, lk_vZ_begin, lk_vZ_steps, lk_vZ_tell, lk_vZ_room, lk_vZ_sides, lk_vZ_first, lk_vZ_strides, lk_vZ_cells, lk_vZ_cell, lk_vZ_at, lk_vZ_put, lk_vZ_numbers, lk_vZ_nested, lk_vZ_twin, lk_vZ_copy_of, pt_p_kept, pu_p_kept, pt_p_holders, pu_p_holders, pt_r_many, pu_r_many, pt_r_width, pu_r_width, pt_r_pages, pu_r_pages, pt_r_copies, pu_r_copies, pt_r_shuts, pu_r_shuts, pt_v_held, pu_v_held, pt_v_lengths, pu_v_lengths, pt_v_begin, pu_v_begin, pt_v_steps, pu_v_steps, pr_many, pr_width, pr_pages, pr_copies, pr_shuts, rF_len, List.mem_cons, List.mem_singleton, List.not_mem_nil, Nat.reduceLT, lk_v1_tell, List.set_set, List.getElem?_set_self, get_mid, get_mid2, eq_self])
local macro_rules | `(tactic| walk_at "gc") => `(tactic| first | refine cnd_t (decide_eq_true (by omega)) ?_ | refine cnd_f (decide_eq_false (by omega)) ?_)
local macro_rules | `(tactic| walk_at "gw") => `(tactic| (walk_at "gs"; repeat (walk_at "gc"; walk_at "gs")))
local macro_rules | `(tactic| walk_at "gv") => `(tactic| (walk_at "gs"; repeat ((first | refine ap_room ?_ | refine ap_sides ?_ | refine ap_first ?_ | refine ap_strides ?_); walk_at "gs")))
local macro_rules | `(tactic| walk_at "gu") => `(tactic| (walk_at "gv"; repeat (walk_at "gc"; walk_at "gv")))
local macro_rules | `(tactic| walk_at "gh") => `(tactic| try simp -implicitDefEqProofs only [↓h_oP, ↓h_vr, ↓h_vI, ↓h_cnd, ↓h_eqR, ↓h_inR, ↓h_ap, ↓h_wLoop, ↓h_wComp, ↓h_gcd, ↓h_fldC, ↓h_stC, ↓h_stFC, ↓h_agC, ↓h_mtC, ↓h_exC, ↓h_lenC, ↓h_eqOR, ↓h_eqIR, ↓h_eqMR, ↓h_bmC, ↓h_apC, ↓x_skip, ↓x_seq, ↓x_asg, ↓x_asgT, ↓x_asgS, ↓x_asgD, ↓x_setIx, ↓x_setFld, ↓x_aug, ↓x_augFld, ↓x_ret, ↓x_ex, ↓x_ifS, ↓x_for, ↓x_brk, ↓x_bad, ↓x_badE, ↓x_cont, ↓x_ret0, ↓x_con, ↓x_var, ↓x_thaw, ↓x_cool, ↓x_maxD, ↓x_bin, ↓x_neg, ↓x_nt, ↓x_cmp, ↓x_chn, ↓x_an, ↓x_orr, ↓x_ife, ↓x_tup, ↓x_lst, ↓x_ix, ↓x_sl, ↓x_sl3, ↓x_srev, ↓x_fld, ↓x_call, ↓x_callk, ↓x_newk, ↓x_lrng, ↓x_lnrg, ↓x_lenI, ↓x_cmpO, ↓x_cmpM, ↓x_cmpI, ↓x_lenL, ↓x_lenA, ↓x_lenT, ↓x_lenO, ↓x_lenR, ↓x_lenCi, ↓x_lenCl, ↓x_lenCf, ↓x_new, ↓x_mth, ↓x_blt, ↓x_bm, ↓x_isi, ↓x_lc, ↓x_lc2, ↓x_yes, ↓x_val, ↓x_ntB, ↓x_anB, ↓x_orB, ↓x_oN, ↓x_oS, ↓x_nil, ↓x_cons, ↓x_ival, ↓x_rng1, ↓x_rng2, ↓x_rng3, ↓x_enum, ↓x_enumz, ↓x_zip, ↓x_rev, ↓x_oPs, ↓x_vrs, ↓x_vIs, ↓x_inI, ↓x_inB, ↓x_inV, ↓x_toI, ↓x_toIb, ↓x_toB, ↓x_toBb, ↓x_cT, ↓x_cF, ↓x_cN, ↓x_thwA, ↓x_thwV, ↓x_adV, ↓x_adA, ↓x_asN, ↓x_asV, ↓x_asA, ↓x_fldO, ↓x_ixN, ↓x_mthO, ↓x_bII, ↓x_bTI, ↓x_bTT, ↓x_blAA, ↓x_blAL, ↓x_bmA, ↓x_blLA, ↓x_blLL, ↓x_bmL, ↓x_blRA, ↓x_blRL, ↓x_blRR, ↓x_blAR, ↓x_blLR, ↓x_binIp, ↓x_binIs, ↓x_binIm, ↓x_binId, ↓x_binIr, ↓x_binAp, ↓x_binAs, ↓x_binAm, ↓x_binAd, ↓x_binAr, ↓x_binIw, ↓x_lt, ↓x_le, ↓x_gt, ↓x_ge, ↓x_eq, ↓x_ne, ↓x_is, ↓x_isn, ↓x_in, ↓x_nin, ↓x_eqI, ↓x_eqT, ↓x_oInt, ↓x_iInt, ↓x_oBl, ↓x_iBl, ↓x_oNon, ↓x_iNon, ↓x_oTup, ↓x_iTup, ↓x_oLst, ↓x_iLst, ↓x_oAl, ↓x_iAl, ↓x_oStr, ↓x_iStr, ↓x_ixR, ↓x_slT, ↓x_slA, ↓x_slL, ↓x_slR, ↓x_sl3R, ↓x_partI, ↓x_partN, ↓x_hdC, ↓x_srT, ↓x_srA, ↓x_srL, ↓x_srR, ↓x_len, ↓x_abs, ↓x_min, ↓x_max, ↓x_min1, ↓x_max1, ↓x_sum, ↓x_all, ↓x_any, ↓x_int, ↓x_bool, ↓x_list, ↓x_tuple, ↓x_dm, ↓x_fldR0, ↓x_fldC, ↓x_stIx0, ↓x_stC, ↓x_stFld0, ↓x_stFC, ↓x_agFld0, ↓x_agC, ↓x_mth0, ↓x_mtC, ↓x_apd0, ↓x_bm_remove, ↓x_bm_pop, ↓x_bm_insert, ↓x_bm_reverse, ↓x_bm_clear, ↓x_bmCl, ↓x_cnt, ↓x_idxm, ↓x_bmK, ↓x_ext0, ↓x_exC, ↓x_apC, Bool.true_xor, Bool.false_xor, bfRm, bfP0, bfP1, bfIn, bfRv, bfCl, sqT, sqL, sqA, lsL, lsA, lmL, lmA, lmR, lmCl, cvT, cvF, arN, arP, arK, arD, lkHit, tpTv, tpT, tpL, tpA, tpR, trN, trB, trI, trT, trL, trA, itN, itB, itI, itS, itT, itL, itA, itO, sqR, lsR, lsCl, lsCf, trR, trCl, trCf, itR, itCl, itCf, itCi, gv0, gvS, sv0, svS, uv0, uvS, svsN, svsC, uvsN, uvsC, wGn, wGt, wGsN, wGsC, ctNn, ctNt, ctNsN, ctNsC, st0E, isNN, isBN, isIN, isSN, isTN, isLN, isON, isRN, isAN, isBB, at0, ix0, at1, ix1, at2, ix2, at3, ix3, at4, ix4, at5, ix5, at6, ix6, at7, ix7, atI_map, lkRV, sz0, sz1, sz2, sz3, sz4, sz5, sz6, sz7, sz8, sz9, sz10, sz11, sz12, sz13, sz14, sz15, sz16, ↓hid_val, enum_map, zip_map, rev_map, List.map_cons, List.map_nil, List.length_cons, List.length_nil, List.length_map, List.replicate_succ, List.replicate_zero, List.cons_append, List.nil_append, List.append_nil, Option.bind_some, Option.map_some, Option.isSome_some, Option.isSome_none, reduceCtorEq, Nat.reduceAdd, Nat.reduceSub, Nat.reduceMul, ite_true, ite_false, if_true, if_false, Bool.not_true, Bool.not_false, Bool.not_not, decide_true, decide_false, Bool.false_eq_true, and_true, true_and, len_concat, set_concat, List.set_cons_zero, List.set_cons_succ, List.getD_cons_zero, List.getD_cons_succ, List.take_succ_cons, List.take_zero, List.drop_succ_cons, List.drop_zero, List.getElem?_cons_zero, List.getElem?_cons_succ, ints_map, ints_map', bls_map, or_self, false_or, or_false, true_or, or_true, Nat.zero_add, List.isEmpty_cons, List.isEmpty_nil, lk_rF_many, lk_rF_width, lk_rF_pages, lk_rF_copies, lk_rF_shuts, lk_rF_read, lk_rF_write, lk_rF_need, lk_rF_numbers, lk_rF_own_page, lk_rF_twin, lk_rF_copied, lk_rF_is_shut, lk_rF_shared, lk_pF_kept, lk_pF_holders, lk_vF_held, lk_vF_lengths, lk_vF_begin, lk_vF_steps, lk_vF_tell, lk_vF_room, lk_vF_sides, lk_vF_first, lk_vF_strides, lk_vF_cells, lk_vF_cell, lk_vF_at, lk_vF_put, lk_vF_numbers, lk_vF_nested, lk_vF_twin, lk_vF_copy_of, lk_pZ_kept, lk_pZ_holders, lk_vZ_held, lk_vZ_lengths, lk_vZ_begin, lk_vZ_steps, lk_vZ_tell, lk_vZ_room, lk_vZ_sides, lk_vZ_first, lk_vZ_strides, lk_vZ_cells, lk_vZ_cell, lk_vZ_at, lk_vZ_put, lk_vZ_numbers, lk_vZ_nested, lk_vZ_twin, lk_vZ_copy_of, pt_p_kept, pu_p_kept, pt_p_holders, pu_p_holders, pt_r_many, pu_r_many, pt_r_width, pu_r_width, pt_r_pages, pu_r_pages, pt_r_copies, pu_r_copies, pt_r_shuts, pu_r_shuts, pt_v_held, pu_v_held, pt_v_lengths, pu_v_lengths, pt_v_begin, pu_v_begin, pt_v_steps, pu_v_steps, pr_many, pr_width, pr_pages, pr_copies, pr_shuts, rF_len, List.mem_cons, List.mem_singleton, List.not_mem_nil, Nat.reduceLT, lk_v1_tell, List.set_set, List.getElem?_set_self, get_mid, get_mid2, eq_self, *])
/-! ### the law's own cells, apart from one another and from the rooms -/
structure Cells (h : CH) (o : Own) (L : List (Nat × CO)) : Prop where
  nd : (L.map (·.1)).Nodup
  at_ : ∀ x ∈ L, h[x.1]? = some x.2
  own : ∀ x ∈ L, o x.1 = none
theorem Cells.get {h : CH} {o : Own} {L : List (Nat × CO)} (C : Cells h o L) {a : Nat} {x : CO} (m : (a, x) ∈ L) : h[a]? = some x := C.at_ _ m
theorem Cells.lt {h : CH} {o : Own} {L : List (Nat × CO)} (C : Cells h o L) {a : Nat} {x : CO} (m : (a, x) ∈ L) : a < h.length := (List.getElem?_eq_some_iff.mp (C.at_ _ m)).1
theorem Cells.fr {h h' : CH} {o o' : Own} {L : List (Nat × CO)} (C : Cells h o L) (F : Fr h h' o o') : Cells h' o' L :=
  ⟨C.nd, fun x m => by rw [F.out _ (C.lt m) (C.own x m)]; exact C.at_ x m, fun x m => F.keep _ (C.lt m) (C.own x m)⟩
theorem Cells.sub {h : CH} {o : Own} {L M : List (Nat × CO)} (C : Cells h o L) (nd : (M.map (·.1)).Nodup) (s : ∀ x ∈ M, x ∈ L) : Cells h o M := ⟨nd, fun x m => C.at_ x (s x m), fun x m => C.own x (s x m)⟩
theorem Cells.app {h : CH} {o : Own} {L : List (Nat × CO)} (C : Cells h o L) (g : CH) : Cells (h ++ g) o L := ⟨C.nd, fun x m => get_app (C.at_ x m), C.own⟩
theorem Cells.cons {h : CH} {o : Own} {L : List (Nat × CO)} (C : Cells h o L) {x : CO} (w : o h.length = none) : Cells (h ++ [x]) o ((h.length, x) :: L) where
  nd := by
    rw [List.map_cons, List.nodup_cons]
    refine ⟨fun m => ?_, C.nd⟩
    obtain ⟨y, hy, e⟩ := List.mem_map.mp m
    have := C.lt (a := y.1) (x := y.2) hy
    omega
  at_ := fun y m => by
    rcases List.mem_cons.mp m with rfl | m
    · exact len_concat
    · exact get_app (C.at_ y m)
  own := fun y m => by
    rcases List.mem_cons.mp m with rfl | m
    · exact w
    · exact C.own y m
theorem Cells.upd {h : CH} {o : Own} {L M : List (Nat × CO)} (C : Cells h o L) {a : Nat} {y : CO} (hk : M.map (·.1) = L.map (·.1)) (h1 : ∀ z ∈ M, z.1 = a → z.2 = y) (h2 : ∀ z ∈ M, z.1 ≠ a → z ∈ L) : Cells (h.set a y) o M where
  nd := by rw [hk]; exact C.nd
  at_ := fun z m => by
    by_cases e : z.1 = a
    · have : z.1 ∈ L.map (·.1) := by rw [← hk]; exact List.mem_map.mpr ⟨z, m, rfl⟩
      obtain ⟨w, hw, ew⟩ := List.mem_map.mp this
      have l := C.lt (a := w.1) (x := w.2) hw
      rw [e, h1 z m e, List.getElem?_set_self (by omega)]
    · rw [List.getElem?_set_ne (Ne.symm e)]; exact C.at_ z (h2 z m e)
  own := fun z m => by
    have : z.1 ∈ L.map (·.1) := by rw [← hk]; exact List.mem_map.mpr ⟨z, m, rfl⟩
    obtain ⟨w, hw, ew⟩ := List.mem_map.mp this
    rw [← ew]; exact C.own w hw
/-- two of the cells are apart -/
theorem Cells.ne {h : CH} {o : Own} {L M N : List (Nat × CO)} {a b : Nat} {x y : CO} (C : Cells h o (L ++ (a, x) :: M)) (m : (b, y) ∈ L ++ M) : b ≠ a := fun e => by
  subst e
  have nd := C.nd
  rw [List.map_append, List.map_cons, List.nodup_append] at nd
  obtain ⟨n1, n2, n3⟩ := nd
  rcases List.mem_append.mp m with m | m
  · exact n3 b (List.mem_map.mpr ⟨_, m, rfl⟩) b List.mem_cons_self rfl
  · exact (List.nodup_cons.mp n2).1 (List.mem_map.mpr ⟨_, m, rfl⟩)
/-- one cell written, in the row of cells -/
theorem Cells.put {h : CH} {o : Own} {L M : List (Nat × CO)} {a : Nat} {x : CO} (C : Cells h o (L ++ (a, x) :: M)) (y : CO) : Cells (h.set a y) o (L ++ (a, y) :: M) := by
  have ne : ∀ z ∈ L ++ M, z.1 ≠ a := fun z m => C.ne (N := []) (y := z.2) m
  refine C.upd (by simp) (fun z m e => ?_) (fun z m e => ?_)
  · rcases List.mem_append.mp m with m | m
    · exact absurd e (ne z (List.mem_append_left _ m))
    · rcases List.mem_cons.mp m with rfl | m
      · rfl
      · exact absurd e (ne z (List.mem_append_right _ m))
  · rcases List.mem_append.mp m with m | m
    · exact List.mem_append_left _ m
    · rcases List.mem_cons.mp m with rfl | m
      · exact absurd rfl e
      · exact List.mem_append_right _ (List.mem_cons_of_mem _ m)
/-- a row of lists -/
def lstC (ds : List Nat) (tab : List (List Int)) : List (Nat × CO) := List.zipWith (fun d ns => (d, CO.lst (ns.map .int))) ds tab
theorem lstC_split {ds : List Nat} {tab : List (List Int)} {i d : Nat} {ns : List Int} (hd : ds[i]? = some d) (ht : tab[i]? = some ns) : ∃ A B, lstC ds tab = A ++ (d, CO.lst (ns.map .int)) :: B ∧ ∀ ms, lstC ds (tab.set i ms) = A ++ (d, CO.lst (ms.map .int)) :: B := by
  have l1 := (List.getElem?_eq_some_iff.mp hd)
  have l2 := (List.getElem?_eq_some_iff.mp ht)
  obtain ⟨l1, e1⟩ := l1
  obtain ⟨l2, e2⟩ := l2
  refine ⟨lstC (ds.take i) (tab.take i), lstC (ds.drop (i + 1)) (tab.drop (i + 1)), ?_, fun ms => ?_⟩
  · unfold lstC
    conv => lhs; rw [← List.take_append_drop i ds, ← List.take_append_drop i tab, List.drop_eq_getElem_cons l1, List.drop_eq_getElem_cons l2, e1, e2]
    rw [List.zipWith_append (by simp; omega)]
    rfl
  · have l3 : i < (tab.set i ms).length := by simpa using l2
    unfold lstC
    conv => lhs; rw [← List.take_append_drop i ds, ← List.take_append_drop i (tab.set i ms), List.drop_eq_getElem_cons l1, List.drop_eq_getElem_cons l3, e1, List.getElem_set_self]
    rw [List.zipWith_append (by simp; omega), List.take_set, List.set_eq_of_length_le (by simp; omega), List.drop_set, if_pos (by omega)]
    rfl
theorem lstC_snoc {ds : List Nat} {tab : List (List Int)} (e : ds.length = tab.length) (d : Nat) (ns : List Int) : lstC (ds ++ [d]) (tab ++ [ns]) = lstC ds tab ++ [(d, CO.lst (ns.map .int))] := by
  unfold lstC; rw [List.zipWith_append e]; rfl
/-! ### lists of lists compared -/
def IsL (h : CH) (v : CV) (ns : List Int) : Prop := ∀ n, datV h (n + 1) v = some (.list (ns.map .int))
theorem isL_ref {h : CH} {a : Nat} {ns : List Int} (e : h[a]? = some (.lst (ns.map .int))) : IsL h (.ref a) ns := fun n => by
  simp only [datV, e, k_int.dats]; rfl
inductive IsLs (h : CH) : List CV → List (List Int) → Prop
  | nil : IsLs h [] []
  | cons {v : CV} {ns : List Int} {vs : List CV} {nss : List (List Int)} (a : IsL h v ns) (b : IsLs h vs nss) : IsLs h (v :: vs) (ns :: nss)
theorem IsLs.dat {h : CH} {vs : List CV} {nss : List (List Int)} (H : IsLs h vs nss) (n : Nat) : datVs h (n + 1) vs = some (nss.map fun ns => PyData.list (ns.map .int)) := by
  induction H with
  | nil => simp [datVs]
  | cons a b ih => simp only [datVs, a n, ih]; rfl
theorem isLs_refs {h : CH} : ∀ {ds : List Nat} {tab : List (List Int)}, ds.length = tab.length → (∀ (i d : Nat) (ns : List Int), ds[i]? = some d → tab[i]? = some ns → h[d]? = some (.lst (ns.map .int))) → IsLs h (ds.map .ref) tab
  | [], [], _, _ => .nil
  | d :: ds, ns :: tab, l, H => .cons (isL_ref (H 0 d ns rfl rfl)) (isLs_refs (by simpa using l) fun i d' ns' a b => H (i + 1) d' ns' a b)
theorem eqL_lists {h : CH} {x y : CR} {xs ys : List CV} {a b : List (List Int)} {k : Bool → Prop} (hx : lsOf x h = some xs) (hy : lsOf y h = some ys) (ha : IsLs h xs a) (hb : IsLs h ys b) (hk : k (decide (a = b))) : eqR x y h k := by
  have D : ∀ (x : CR) (xs : List CV) (a : List (List Int)), lsOf x h = some xs → IsLs h xs a → datR h x = some (PyData.list (a.map fun ns => PyData.list (ns.map .int))) := by
    intro x xs a hx ha
    cases x with
    | al ys =>
      cases hx
      simp only [datR, ha.dat 7]; rfl
    | v v =>
      cases v with
      | lst ys =>
        cases hx
        simp only [datR, datV, ha.dat 6]; rfl
      | ref l =>
        have q : (match h[l]? with | some (CO.lst xs) => some xs | some (CO.fro xs) => some xs | _ => none) = some xs := hx
        simp only [datR, datV]
        cases hl : h[l]? with
        | none => rw [hl] at q; cases q
        | some o =>
          rw [hl] at q
          cases o with
          | lst zs => cases q; simp only [ha.dat 6]; rfl
          | fro zs => cases q; simp only [ha.dat 6]; rfl
          | ins C fs => cases q
      | _ => cases hx
  have K := (k_int (h := h) (n := 7)).lst
  exact eqR_mk (D x xs a hx ha) (D y ys b hy hb) (K.shL (by decide) a) (K.shL (by decide) b) (K.eqL a b) hk
end G

namespace G
open PySem PySem.Spec PyProof.Rows L2
local macro_rules | `(tactic| walk_at "gs") => `(tactic| try simp -implicitDefEqProofs only [↓h_oP, ↓h_vr, ↓h_vI, ↓h_cnd, ↓h_eqR, ↓h_inR, ↓h_ap, ↓h_wLoop, ↓h_wComp, ↓h_gcd, ↓h_fldC, ↓h_stC, ↓h_stFC, ↓h_agC, ↓h_mtC, ↓h_exC, ↓h_lenC, ↓h_eqOR, ↓h_eqIR, ↓h_eqMR, ↓h_bmC, ↓h_apC, ↓x_skip, ↓x_seq, ↓x_asg, ↓x_asgT, ↓x_asgS, ↓x_asgD, ↓x_setIx, ↓x_setFld, ↓x_aug, ↓x_augFld, ↓x_ret, ↓x_ex, ↓x_ifS, ↓x_for, ↓x_brk, ↓x_bad, ↓x_badE, ↓x_cont, ↓x_ret0, ↓x_con, ↓x_var, ↓x_thaw, ↓x_cool, ↓x_maxD, ↓x_bin, ↓x_neg, ↓x_nt, ↓x_cmp, ↓x_chn, ↓x_an, ↓x_orr, ↓x_ife, ↓x_tup, ↓x_lst, ↓x_ix, ↓x_sl, ↓x_sl3, ↓x_srev, ↓x_fld, ↓x_call, ↓x_callk, ↓x_newk, ↓x_lrng, ↓x_lnrg, ↓x_lenI, ↓x_cmpO, ↓x_cmpM, ↓x_cmpI, ↓x_lenL, ↓x_lenA, ↓x_lenT, ↓x_lenO, ↓x_lenR, ↓x_lenCi, ↓x_lenCl, ↓x_lenCf, ↓x_new, ↓x_mth, ↓x_blt, ↓x_bm, ↓x_isi, ↓x_lc, ↓x_lc2, ↓x_yes, ↓x_val, ↓x_ntB, ↓x_anB, ↓x_orB, ↓x_oN, ↓x_oS, ↓x_nil, ↓x_cons, ↓x_ival, ↓x_rng1, ↓x_rng2, ↓x_rng3, ↓x_enum, ↓x_enumz, ↓x_zip, ↓x_rev, ↓x_oPs, ↓x_vrs, ↓x_vIs, ↓x_inI, ↓x_inB, ↓x_inV, ↓x_toI, ↓x_toIb, ↓x_toB, ↓x_toBb, ↓x_cT, ↓x_cF, ↓x_cN, ↓x_thwA, ↓x_thwV, ↓x_adV, ↓x_adA, ↓x_asN, ↓x_asV, ↓x_asA, ↓x_fldO, ↓x_ixN, ↓x_mthO, ↓x_bII, ↓x_bTI, ↓x_bTT, ↓x_blAA, ↓x_blAL, ↓x_bmA, ↓x_blLA, ↓x_blLL, ↓x_bmL, ↓x_blRA, ↓x_blRL, ↓x_blRR, ↓x_blAR, ↓x_blLR, ↓x_binIp, ↓x_binIs, ↓x_binIm, ↓x_binId, ↓x_binIr, ↓x_binAp, ↓x_binAs, ↓x_binAm, ↓x_binAd, ↓x_binAr, ↓x_binIw, ↓x_lt, ↓x_le, ↓x_gt, ↓x_ge, ↓x_eq, ↓x_ne, ↓x_is, ↓x_isn, ↓x_in, ↓x_nin, ↓x_eqI, ↓x_eqT, ↓x_oInt, ↓x_iInt, ↓x_oBl, ↓x_iBl, ↓x_oNon, ↓x_iNon, ↓x_oTup, ↓x_iTup, ↓x_oLst, ↓x_iLst, ↓x_oAl, ↓x_iAl, ↓x_oStr, ↓x_iStr, ↓x_ixR, ↓x_slT, ↓x_slA, ↓x_slL, ↓x_slR, ↓x_sl3R, ↓x_partI, ↓x_partN, ↓x_hdC, ↓x_srT, ↓x_srA, ↓x_srL, ↓x_srR, ↓x_len, ↓x_abs, ↓x_min, ↓x_max, ↓x_min1, ↓x_max1, ↓x_sum, ↓x_all, ↓x_any, ↓x_int, ↓x_bool, ↓x_list, ↓x_tuple, ↓x_dm, ↓x_fldR0, ↓x_fldC, ↓x_stIx0, ↓x_stC, ↓x_stFld0, ↓x_stFC, ↓x_agFld0, ↓x_agC, ↓x_mth0, ↓x_mtC, ↓x_apd0, ↓x_bm_remove, ↓x_bm_pop, ↓x_bm_insert, ↓x_bm_reverse, ↓x_bm_clear, ↓x_bmCl, ↓x_cnt, ↓x_idxm, ↓x_bmK, ↓x_ext0, ↓x_exC, ↓x_apC, Bool.true_xor, Bool.false_xor, bfRm, bfP0, bfP1, bfIn, bfRv, bfCl, sqT, sqL, sqA, lsL, lsA, lmL, lmA, lmR, lmCl, cvT, cvF, arN, arP, arK, arD, lkHit, tpTv, tpT, tpL, tpA, tpR, trN, trB, trI, trT, trL, trA, itN, itB, itI, itS, itT, itL, itA, itO, sqR, lsR, lsCl, lsCf, trR, trCl, trCf, itR, itCl, itCf, itCi, gv0, gvS, sv0, svS, uv0, uvS, svsN, svsC, uvsN, uvsC, wGn, wGt, wGsN, wGsC, ctNn, ctNt, ctNsN, ctNsC, st0E, isNN, isBN, isIN, isSN, isTN, isLN, isON, isRN, isAN, isBB, at0, ix0, at1, ix1, at2, ix2, at3, ix3, at4, ix4, at5, ix5, at6, ix6, at7, ix7, atI_map, lkRV, sz0, sz1, sz2, sz3, sz4, sz5, sz6, sz7, sz8, sz9, sz10, sz11, sz12, sz13, sz14, sz15, sz16, ↓hid_val, enum_map, zip_map, rev_map, List.map_cons, List.map_nil, List.length_cons, List.length_nil, List.length_map, List.replicate_succ, List.replicate_zero, List.cons_append, List.nil_append, List.append_nil, Option.bind_some, Option.map_some, Option.isSome_some, Option.isSome_none, reduceCtorEq, Nat.reduceAdd, Nat.reduceSub, Nat.reduceMul, ite_true, ite_false, if_true, if_false, Bool.not_true, Bool.not_false, Bool.not_not, decide_true, decide_false, Bool.false_eq_true, and_true, true_and, len_concat, set_concat, List.set_cons_zero, List.set_cons_succ, List.getD_cons_zero, List.getD_cons_succ, List.take_succ_cons, List.take_zero, List.drop_succ_cons, List.drop_zero, List.getElem?_cons_zero, List.getElem?_cons_succ, ints_map, ints_map', bls_map, or_self, false_or, or_false, true_or, or_true, Nat.zero_add, List.isEmpty_cons, List.isEmpty_nil, lk_rF_many, lk_rF_width, lk_rF_pages, lk_rF_copies, lk_rF_shuts, lk_rF_read, lk_rF_write, lk_rF_need, lk_rF_numbers, lk_rF_own_page, lk_rF_twin, lk_rF_copied, lk_rF_is_shut, lk_rF_shared, lk_pF_kept, lk_pF_holders, lk_vF_held, lk_vF_lengths, lk_vF_begin, lk_vF_steps, lk_vF_tell, lk_vF_room, lk_vF_sides, lk_vF_first, lk_vF_strides, lk_vF_cells, lk_vF_cell, lk_vF_at, lk_vF_put, lk_vF_numbers, lk_vF_nested, lk_vF_twin, lk_vF_copy_of, lk_pZ_kept, lk_pZ_holders, lk_vZ_held, lk_vZ_lengths, lk_vZ_begin, lk_vZ_steps, lk_vZ_tell, lk_vZ_room, lk_vZ_sides, lk_vZ_first, lk_vZ_strides, lk_vZ_cells, lk_vZ_cell, lk_vZ_at, lk_vZ_put, lk_vZ_numbers, lk_vZ_nested, lk_vZ_twin, lk_vZ_copy_of, pt_p_kept, pu_p_kept, pt_p_holders, pu_p_holders, pt_r_many, pu_r_many, pt_r_width, pu_r_width, pt_r_pages, pu_r_pages, pt_r_copies, pu_r_copies, pt_r_shuts, pu_r_shuts, pt_v_held, pu_v_held, pt_v_lengths, pu_v_lengths, pt_v_begin, pu_v_begin, pt_v_steps, pu_v_steps, pr_many, pr_width, pr_pages, pr_copies, pr_shuts, rF_len, List.mem_cons, List.mem_singleton, List.not_mem_nil, Nat.reduceLT, lk_v1_tell, List.set_set, List.getElem?_set_self, get_mid, get_mid2, eq_self])
local macro_rules | `(tactic| walk_at "gc") => `(tactic| first | refine cnd_t (decide_eq_true (by omega)) ?_ | refine cnd_f (decide_eq_false (by omega)) ?_)
local macro_rules | `(tactic| walk_at "gw") => `(tactic| (walk_at "gs"; repeat (walk_at "gc"; walk_at "gs")))
local macro_rules | `(tactic| walk_at "gv") => `(tactic| (walk_at "gs"; repeat ((first | refine ap_room ?_ | refine ap_sides ?_ | refine ap_first ?_ | refine ap_strides ?_); walk_at "gs")))
local macro_rules | `(tactic| walk_at "gu") => `(tactic| (walk_at "gv"; repeat (walk_at "gc"; walk_at "gv")))
local macro_rules | `(tactic| walk_at "gh") => `(tactic| try simp -implicitDefEqProofs only [↓h_oP, ↓h_vr, ↓h_vI, ↓h_cnd, ↓h_eqR, ↓h_inR, ↓h_ap, ↓h_wLoop, ↓h_wComp, ↓h_gcd, ↓h_fldC, ↓h_stC, ↓h_stFC, ↓h_agC, ↓h_mtC, ↓h_exC, ↓h_lenC, ↓h_eqOR, ↓h_eqIR, ↓h_eqMR, ↓h_bmC, ↓h_apC, ↓x_skip, ↓x_seq, ↓x_asg, ↓x_asgT, ↓x_asgS, ↓x_asgD, ↓x_setIx, ↓x_setFld, ↓x_aug, ↓x_augFld, ↓x_ret, ↓x_ex, ↓x_ifS, ↓x_for, ↓x_brk, ↓x_bad, ↓x_badE, ↓x_cont, ↓x_ret0, ↓x_con, ↓x_var, ↓x_thaw, ↓x_cool, ↓x_maxD, ↓x_bin, ↓x_neg, ↓x_nt, ↓x_cmp, ↓x_chn, ↓x_an, ↓x_orr, ↓x_ife, ↓x_tup, ↓x_lst, ↓x_ix, ↓x_sl, ↓x_sl3, ↓x_srev, ↓x_fld, ↓x_call, ↓x_callk, ↓x_newk, ↓x_lrng, ↓x_lnrg, ↓x_lenI, ↓x_cmpO, ↓x_cmpM, ↓x_cmpI, ↓x_lenL, ↓x_lenA, ↓x_lenT, ↓x_lenO, ↓x_lenR, ↓x_lenCi, ↓x_lenCl, ↓x_lenCf, ↓x_new, ↓x_mth, ↓x_blt, ↓x_bm, ↓x_isi, ↓x_lc, ↓x_lc2, ↓x_yes, ↓x_val, ↓x_ntB, ↓x_anB, ↓x_orB, ↓x_oN, ↓x_oS, ↓x_nil, ↓x_cons, ↓x_ival, ↓x_rng1, ↓x_rng2, ↓x_rng3, ↓x_enum, ↓x_enumz, ↓x_zip, ↓x_rev, ↓x_oPs, ↓x_vrs, ↓x_vIs, ↓x_inI, ↓x_inB, ↓x_inV, ↓x_toI, ↓x_toIb, ↓x_toB, ↓x_toBb, ↓x_cT, ↓x_cF, ↓x_cN, ↓x_thwA, ↓x_thwV, ↓x_adV, ↓x_adA, ↓x_asN, ↓x_asV, ↓x_asA, ↓x_fldO, ↓x_ixN, ↓x_mthO, ↓x_bII, ↓x_bTI, ↓x_bTT, ↓x_blAA, ↓x_blAL, ↓x_bmA, ↓x_blLA, ↓x_blLL, ↓x_bmL, ↓x_blRA, ↓x_blRL, ↓x_blRR, ↓x_blAR, ↓x_blLR, ↓x_binIp, ↓x_binIs, ↓x_binIm, ↓x_binId, ↓x_binIr, ↓x_binAp, ↓x_binAs, ↓x_binAm, ↓x_binAd, ↓x_binAr, ↓x_binIw, ↓x_lt, ↓x_le, ↓x_gt, ↓x_ge, ↓x_eq, ↓x_ne, ↓x_is, ↓x_isn, ↓x_in, ↓x_nin, ↓x_eqI, ↓x_eqT, ↓x_oInt, ↓x_iInt, ↓x_oBl, ↓x_iBl, ↓x_oNon, ↓x_iNon, ↓x_oTup, ↓x_iTup, ↓x_oLst, ↓x_iLst, ↓x_oAl, ↓x_iAl, ↓x_oStr, ↓x_iStr, ↓x_ixR, ↓x_slT, ↓x_slA, ↓x_slL, ↓x_slR, ↓x_sl3R, ↓x_partI, ↓x_partN, ↓x_hdC, ↓x_srT, ↓x_srA, ↓x_srL, ↓x_srR, ↓x_len, ↓x_abs, ↓x_min, ↓x_max, ↓x_min1, ↓x_max1, ↓x_sum, ↓x_all, ↓x_any, ↓x_int, ↓x_bool, ↓x_list, ↓x_tuple, ↓x_dm, ↓x_fldR0, ↓x_fldC, ↓x_stIx0, ↓x_stC, ↓x_stFld0, ↓x_stFC, ↓x_agFld0, ↓x_agC, ↓x_mth0, ↓x_mtC, ↓x_apd0, ↓x_bm_remove, ↓x_bm_pop, ↓x_bm_insert, ↓x_bm_reverse, ↓x_bm_clear, ↓x_bmCl, ↓x_cnt, ↓x_idxm, ↓x_bmK, ↓x_ext0, ↓x_exC, ↓x_apC, Bool.true_xor, Bool.false_xor, bfRm, bfP0, bfP1, bfIn, bfRv, bfCl, sqT, sqL, sqA, lsL, lsA, lmL, lmA, lmR, lmCl, cvT, cvF, arN, arP, arK, arD, lkHit, tpTv, tpT, tpL, tpA, tpR, trN, trB, trI, trT, trL, trA, itN, itB, itI, itS, itT, itL, itA, itO, sqR, lsR, lsCl, lsCf, trR, trCl, trCf, itR, itCl, itCf, itCi, gv0, gvS, sv0, svS, uv0, uvS, svsN, svsC, uvsN, uvsC, wGn, wGt, wGsN, wGsC, ctNn, ctNt, ctNsN, ctNsC, st0E, isNN, isBN, isIN, isSN, isTN, isLN, isON, isRN, isAN, isBB, at0, ix0, at1, ix1, at2, ix2, at3, ix3, at4, ix4, at5, ix5, at6, ix6, at7, ix7, atI_map, lkRV, sz0, sz1, sz2, sz3, sz4, sz5, sz6, sz7, sz8, sz9, sz10, sz11, sz12, sz13, sz14, sz15, sz16, ↓hid_val, enum_map, zip_map, rev_map, List.map_cons, List.map_nil, List.length_cons, List.length_nil, List.length_map, List.replicate_succ, List.replicate_zero, List.cons_append, List.nil_append, List.append_nil, Option.bind_some, Option.map_some, Option.isSome_some, Option.isSome_none, reduceCtorEq, Nat.reduceAdd, Nat.reduceSub, Nat.reduceMul, ite_true, ite_false, if_true, if_false, Bool.not_true, Bool.not_false, Bool.not_not, decide_true, decide_false, Bool.false_eq_true, and_true, true_and, len_concat, set_concat, List.set_cons_zero, List.set_cons_succ, List.getD_cons_zero, List.getD_cons_succ, List.take_succ_cons, List.take_zero, List.drop_succ_cons, List.drop_zero, List.getElem?_cons_zero, List.getElem?_cons_succ, ints_map, ints_map', bls_map, or_self, false_or, or_false, true_or, or_true, Nat.zero_add, List.isEmpty_cons, List.isEmpty_nil, lk_rF_many, lk_rF_width, lk_rF_pages, lk_rF_copies, lk_rF_shuts, lk_rF_read, lk_rF_write, lk_rF_need, lk_rF_numbers, lk_rF_own_page, lk_rF_twin, lk_rF_copied, lk_rF_is_shut, lk_rF_shared, lk_pF_kept, lk_pF_holders, lk_vF_held, lk_vF_lengths, lk_vF_begin, lk_vF_steps, lk_vF_tell, lk_vF_room, lk_vF_sides, lk_vF_first, lk_vF_strides, lk_vF_cells, lk_vF_cell, lk_vF_at, lk_vF_put, lk_vF_numbers, lk_vF_nested, lk_vF_twin, lk_vF_copy_of, lk_pZ_kept, lk_pZ_holders, lk_vZ_held, lk_vZ_lengths, lk_vZ_begin, lk_vZ_steps, lk_vZ_tell, lk_vZ_room, lk_vZ_sides, lk_vZ_first, lk_vZ_strides, lk_vZ_cells, lk_vZ_cell, lk_vZ_at, lk_vZ_put, lk_vZ_numbers, lk_vZ_nested, lk_vZ_twin, lk_vZ_copy_of, pt_p_kept, pu_p_kept, pt_p_holders, pu_p_holders, pt_r_many, pu_r_many, pt_r_width, pu_r_width, pt_r_pages, pu_r_pages, pt_r_copies, pu_r_copies, pt_r_shuts, pu_r_shuts, pt_v_held, pu_v_held, pt_v_lengths, pu_v_lengths, pt_v_begin, pu_v_begin, pt_v_steps, pu_v_steps, pr_many, pr_width, pr_pages, pr_copies, pr_shuts, rF_len, List.mem_cons, List.mem_singleton, List.not_mem_nil, Nat.reduceLT, lk_v1_tell, List.set_set, List.getElem?_set_self, get_mid, get_mid2, eq_self, *])
def GW.cps (W : GW) : List Int := W.rs.map RG.cp
theorem put_none {W : GW} {n i : Nat} {R : RG} {cell : Nat} {v : Int} (e : (W.nums R)[cell]? = some v) : W.put n i R cell v = W := by
  unfold GW.put
  split
  · rfl
  · rw [if_pos e]
theorem put_1 {W : GW} {n i : Nat} {R : RG} {cell p : Nat} {v : Int} (e : (W.nums R)[cell]? ≠ some v) (hp : R.ps[cell / R.w]? = some p) (h1 : ¬ 1 < (W.pg p).hd) : W.put n i R cell v = W.setPg p { W.pg p with ns := (W.pg p).ns.set (cell % R.w) v } := by
  unfold GW.put
  rw [hp]
  dsimp only
  rw [if_neg e, if_neg h1]
theorem put_2 {W : GW} {n i : Nat} {R : RG} {cell p : Nat} {v : Int} (e : (W.nums R)[cell]? ≠ some v) (hp : R.ps[cell / R.w]? = some p) (h1 : 1 < (W.pg p).hd) : W.put n i R cell v = W.put2 n i R (cell / R.w) p ⟨n, (W.pg p).ns.set (cell % R.w) v, 1⟩ := by
  unfold GW.put
  rw [hp]
  dsimp only
  rw [if_neg e, if_pos h1]
end G

namespace G
open PySem PySem.Spec PyProof.Rows L2
local macro_rules | `(tactic| walk_at "gs") => `(tactic| try simp -implicitDefEqProofs only [↓h_oP, ↓h_vr, ↓h_vI, ↓h_cnd, ↓h_eqR, ↓h_inR, ↓h_ap, ↓h_wLoop, ↓h_wComp, ↓h_gcd, ↓h_fldC, ↓h_stC, ↓h_stFC, ↓h_agC, ↓h_mtC, ↓h_exC, ↓h_lenC, ↓h_eqOR, ↓h_eqIR, ↓h_eqMR, ↓h_bmC, ↓h_apC, ↓x_skip, ↓x_seq, ↓x_asg, ↓x_asgT, ↓x_asgS, ↓x_asgD, ↓x_setIx, ↓x_setFld, ↓x_aug, ↓x_augFld, ↓x_ret, ↓x_ex, ↓x_ifS, ↓x_for, ↓x_brk, ↓x_bad, ↓x_badE, ↓x_cont, ↓x_ret0, ↓x_con, ↓x_var, ↓x_thaw, ↓x_cool, ↓x_maxD, ↓x_bin, ↓x_neg, ↓x_nt, ↓x_cmp, ↓x_chn, ↓x_an, ↓x_orr, ↓x_ife, ↓x_tup, ↓x_lst, ↓x_ix, ↓x_sl, ↓x_sl3, ↓x_srev, ↓x_fld, ↓x_call, ↓x_callk, ↓x_newk, ↓x_lrng, ↓x_lnrg, ↓x_lenI, ↓x_cmpO, ↓x_cmpM, ↓x_cmpI, ↓x_lenL, ↓x_lenA, ↓x_lenT, ↓x_lenO, ↓x_lenR, ↓x_lenCi, ↓x_lenCl, ↓x_lenCf, ↓x_new, ↓x_mth, ↓x_blt, ↓x_bm, ↓x_isi, ↓x_lc, ↓x_lc2, ↓x_yes, ↓x_val, ↓x_ntB, ↓x_anB, ↓x_orB, ↓x_oN, ↓x_oS, ↓x_nil, ↓x_cons, ↓x_ival, ↓x_rng1, ↓x_rng2, ↓x_rng3, ↓x_enum, ↓x_enumz, ↓x_zip, ↓x_rev, ↓x_oPs, ↓x_vrs, ↓x_vIs, ↓x_inI, ↓x_inB, ↓x_inV, ↓x_toI, ↓x_toIb, ↓x_toB, ↓x_toBb, ↓x_cT, ↓x_cF, ↓x_cN, ↓x_thwA, ↓x_thwV, ↓x_adV, ↓x_adA, ↓x_asN, ↓x_asV, ↓x_asA, ↓x_fldO, ↓x_ixN, ↓x_mthO, ↓x_bII, ↓x_bTI, ↓x_bTT, ↓x_blAA, ↓x_blAL, ↓x_bmA, ↓x_blLA, ↓x_blLL, ↓x_bmL, ↓x_blRA, ↓x_blRL, ↓x_blRR, ↓x_blAR, ↓x_blLR, ↓x_binIp, ↓x_binIs, ↓x_binIm, ↓x_binId, ↓x_binIr, ↓x_binAp, ↓x_binAs, ↓x_binAm, ↓x_binAd, ↓x_binAr, ↓x_binIw, ↓x_lt, ↓x_le, ↓x_gt, ↓x_ge, ↓x_eq, ↓x_ne, ↓x_is, ↓x_isn, ↓x_in, ↓x_nin, ↓x_eqI, ↓x_eqT, ↓x_oInt, ↓x_iInt, ↓x_oBl, ↓x_iBl, ↓x_oNon, ↓x_iNon, ↓x_oTup, ↓x_iTup, ↓x_oLst, ↓x_iLst, ↓x_oAl, ↓x_iAl, ↓x_oStr, ↓x_iStr, ↓x_ixR, ↓x_slT, ↓x_slA, ↓x_slL, ↓x_slR, ↓x_sl3R, ↓x_partI, ↓x_partN, ↓x_hdC, ↓x_srT, ↓x_srA, ↓x_srL, ↓x_srR, ↓x_len, ↓x_abs, ↓x_min, ↓x_max, ↓x_min1, ↓x_max1, ↓x_sum, ↓x_all, ↓x_any, ↓x_int, ↓x_bool, ↓x_list, ↓x_tuple, ↓x_dm, ↓x_fldR0, ↓x_fldC, ↓x_stIx0, ↓x_stC, ↓x_stFld0, ↓x_stFC, ↓x_agFld0, ↓x_agC, ↓x_mth0, ↓x_mtC, ↓x_apd0, ↓x_bm_remove, ↓x_bm_pop, ↓x_bm_insert, ↓x_bm_reverse, ↓x_bm_clear, ↓x_bmCl, ↓x_cnt, ↓x_idxm, ↓x_bmK, ↓x_ext0, ↓x_exC, ↓x_apC, Bool.true_xor, Bool.false_xor, bfRm, bfP0, bfP1, bfIn, bfRv, bfCl, sqT, sqL, sqA, lsL, lsA, lmL, lmA, lmR, lmCl, cvT, cvF, arN, arP, arK, arD, lkHit, tpTv, tpT, tpL, tpA, tpR, trN, trB, trI, trT, trL, trA, itN, itB, itI, itS, itT, itL, itA, itO, sqR, lsR, lsCl, lsCf, trR, trCl, trCf, itR, itCl, itCf, itCi, gv0, gvS, sv0, svS, uv0, uvS, svsN, svsC, uvsN, uvsC, wGn, wGt, wGsN, wGsC, ctNn, ctNt, ctNsN, ctNsC, st0E, isNN, isBN, isIN, isSN, isTN, isLN, isON, isRN, isAN, isBB, at0, ix0, at1, ix1, at2, ix2, at3, ix3, at4, ix4, at5, ix5, at6, ix6, at7, ix7, atI_map, lkRV, sz0, sz1, sz2, sz3, sz4, sz5, sz6, sz7, sz8, sz9, sz10, sz11, sz12, sz13, sz14, sz15, sz16, ↓hid_val, enum_map, zip_map, rev_map, List.map_cons, List.map_nil, List.length_cons, List.length_nil, List.length_map, List.replicate_succ, List.replicate_zero, List.cons_append, List.nil_append, List.append_nil, Option.bind_some, Option.map_some, Option.isSome_some, Option.isSome_none, reduceCtorEq, Nat.reduceAdd, Nat.reduceSub, Nat.reduceMul, ite_true, ite_false, if_true, if_false, Bool.not_true, Bool.not_false, Bool.not_not, decide_true, decide_false, Bool.false_eq_true, and_true, true_and, len_concat, set_concat, List.set_cons_zero, List.set_cons_succ, List.getD_cons_zero, List.getD_cons_succ, List.take_succ_cons, List.take_zero, List.drop_succ_cons, List.drop_zero, List.getElem?_cons_zero, List.getElem?_cons_succ, ints_map, ints_map', bls_map, or_self, false_or, or_false, true_or, or_true, Nat.zero_add, List.isEmpty_cons, List.isEmpty_nil, lk_rF_many, lk_rF_width, lk_rF_pages, lk_rF_copies, lk_rF_shuts, lk_rF_read, lk_rF_write, lk_rF_need, lk_rF_numbers, lk_rF_own_page, lk_rF_twin, lk_rF_copied, lk_rF_is_shut, lk_rF_shared, lk_pF_kept, lk_pF_holders, lk_vF_held, lk_vF_lengths, lk_vF_begin, lk_vF_steps, lk_vF_tell, lk_vF_room, lk_vF_sides, lk_vF_first, lk_vF_strides, lk_vF_cells, lk_vF_cell, lk_vF_at, lk_vF_put, lk_vF_numbers, lk_vF_nested, lk_vF_twin, lk_vF_copy_of, lk_pZ_kept, lk_pZ_holders, lk_vZ_held, lk_vZ_lengths, lk_vZ_begin, lk_vZ_steps, lk_vZ_tell, lk_vZ_room, lk_vZ_sides, lk_vZ_first, lk_vZ_strides, lk_vZ_cells, lk_vZ_cell, lk_vZ_at, lk_vZ_put, lk_vZ_numbers, lk_vZ_nested, lk_vZ_twin, lk_vZ_copy_of, pt_p_kept, pu_p_kept, pt_p_holders, pu_p_holders, pt_r_many, pu_r_many, pt_r_width, pu_r_width, pt_r_pages, pu_r_pages, pt_r_copies, pu_r_copies, pt_r_shuts, pu_r_shuts, pt_v_held, pu_v_held, pt_v_lengths, pu_v_lengths, pt_v_begin, pu_v_begin, pt_v_steps, pu_v_steps, pr_many, pr_width, pr_pages, pr_copies, pr_shuts, rF_len, List.mem_cons, List.mem_singleton, List.not_mem_nil, Nat.reduceLT, lk_v1_tell, List.set_set, List.getElem?_set_self, get_mid, get_mid2, eq_self])
local macro_rules | `(tactic| walk_at "gc") => `(tactic| first | refine cnd_t (decide_eq_true (by omega)) ?_ | refine cnd_f (decide_eq_false (by omega)) ?_)
local macro_rules | `(tactic| walk_at "gw") => `(tactic| (walk_at "gs"; repeat (walk_at "gc"; walk_at "gs")))
local macro_rules | `(tactic| walk_at "gv") => `(tactic| (walk_at "gs"; repeat ((first | refine ap_room ?_ | refine ap_sides ?_ | refine ap_first ?_ | refine ap_strides ?_); walk_at "gs")))
local macro_rules | `(tactic| walk_at "gu") => `(tactic| (walk_at "gv"; repeat (walk_at "gc"; walk_at "gv")))
local macro_rules | `(tactic| walk_at "gh") => `(tactic| try simp -implicitDefEqProofs only [↓h_oP, ↓h_vr, ↓h_vI, ↓h_cnd, ↓h_eqR, ↓h_inR, ↓h_ap, ↓h_wLoop, ↓h_wComp, ↓h_gcd, ↓h_fldC, ↓h_stC, ↓h_stFC, ↓h_agC, ↓h_mtC, ↓h_exC, ↓h_lenC, ↓h_eqOR, ↓h_eqIR, ↓h_eqMR, ↓h_bmC, ↓h_apC, ↓x_skip, ↓x_seq, ↓x_asg, ↓x_asgT, ↓x_asgS, ↓x_asgD, ↓x_setIx, ↓x_setFld, ↓x_aug, ↓x_augFld, ↓x_ret, ↓x_ex, ↓x_ifS, ↓x_for, ↓x_brk, ↓x_bad, ↓x_badE, ↓x_cont, ↓x_ret0, ↓x_con, ↓x_var, ↓x_thaw, ↓x_cool, ↓x_maxD, ↓x_bin, ↓x_neg, ↓x_nt, ↓x_cmp, ↓x_chn, ↓x_an, ↓x_orr, ↓x_ife, ↓x_tup, ↓x_lst, ↓x_ix, ↓x_sl, ↓x_sl3, ↓x_srev, ↓x_fld, ↓x_call, ↓x_callk, ↓x_newk, ↓x_lrng, ↓x_lnrg, ↓x_lenI, ↓x_cmpO, ↓x_cmpM, ↓x_cmpI, ↓x_lenL, ↓x_lenA, ↓x_lenT, ↓x_lenO, ↓x_lenR, ↓x_lenCi, ↓x_lenCl, ↓x_lenCf, ↓x_new, ↓x_mth, ↓x_blt, ↓x_bm, ↓x_isi, ↓x_lc, ↓x_lc2, ↓x_yes, ↓x_val, ↓x_ntB, ↓x_anB, ↓x_orB, ↓x_oN, ↓x_oS, ↓x_nil, ↓x_cons, ↓x_ival, ↓x_rng1, ↓x_rng2, ↓x_rng3, ↓x_enum, ↓x_enumz, ↓x_zip, ↓x_rev, ↓x_oPs, ↓x_vrs, ↓x_vIs, ↓x_inI, ↓x_inB, ↓x_inV, ↓x_toI, ↓x_toIb, ↓x_toB, ↓x_toBb, ↓x_cT, ↓x_cF, ↓x_cN, ↓x_thwA, ↓x_thwV, ↓x_adV, ↓x_adA, ↓x_asN, ↓x_asV, ↓x_asA, ↓x_fldO, ↓x_ixN, ↓x_mthO, ↓x_bII, ↓x_bTI, ↓x_bTT, ↓x_blAA, ↓x_blAL, ↓x_bmA, ↓x_blLA, ↓x_blLL, ↓x_bmL, ↓x_blRA, ↓x_blRL, ↓x_blRR, ↓x_blAR, ↓x_blLR, ↓x_binIp, ↓x_binIs, ↓x_binIm, ↓x_binId, ↓x_binIr, ↓x_binAp, ↓x_binAs, ↓x_binAm, ↓x_binAd, ↓x_binAr, ↓x_binIw, ↓x_lt, ↓x_le, ↓x_gt, ↓x_ge, ↓x_eq, ↓x_ne, ↓x_is, ↓x_isn, ↓x_in, ↓x_nin, ↓x_eqI, ↓x_eqT, ↓x_oInt, ↓x_iInt, ↓x_oBl, ↓x_iBl, ↓x_oNon, ↓x_iNon, ↓x_oTup, ↓x_iTup, ↓x_oLst, ↓x_iLst, ↓x_oAl, ↓x_iAl, ↓x_oStr, ↓x_iStr, ↓x_ixR, ↓x_slT, ↓x_slA, ↓x_slL, ↓x_slR, ↓x_sl3R, ↓x_partI, ↓x_partN, ↓x_hdC, ↓x_srT, ↓x_srA, ↓x_srL, ↓x_srR, ↓x_len, ↓x_abs, ↓x_min, ↓x_max, ↓x_min1, ↓x_max1, ↓x_sum, ↓x_all, ↓x_any, ↓x_int, ↓x_bool, ↓x_list, ↓x_tuple, ↓x_dm, ↓x_fldR0, ↓x_fldC, ↓x_stIx0, ↓x_stC, ↓x_stFld0, ↓x_stFC, ↓x_agFld0, ↓x_agC, ↓x_mth0, ↓x_mtC, ↓x_apd0, ↓x_bm_remove, ↓x_bm_pop, ↓x_bm_insert, ↓x_bm_reverse, ↓x_bm_clear, ↓x_bmCl, ↓x_cnt, ↓x_idxm, ↓x_bmK, ↓x_ext0, ↓x_exC, ↓x_apC, Bool.true_xor, Bool.false_xor, bfRm, bfP0, bfP1, bfIn, bfRv, bfCl, sqT, sqL, sqA, lsL, lsA, lmL, lmA, lmR, lmCl, cvT, cvF, arN, arP, arK, arD, lkHit, tpTv, tpT, tpL, tpA, tpR, trN, trB, trI, trT, trL, trA, itN, itB, itI, itS, itT, itL, itA, itO, sqR, lsR, lsCl, lsCf, trR, trCl, trCf, itR, itCl, itCf, itCi, gv0, gvS, sv0, svS, uv0, uvS, svsN, svsC, uvsN, uvsC, wGn, wGt, wGsN, wGsC, ctNn, ctNt, ctNsN, ctNsC, st0E, isNN, isBN, isIN, isSN, isTN, isLN, isON, isRN, isAN, isBB, at0, ix0, at1, ix1, at2, ix2, at3, ix3, at4, ix4, at5, ix5, at6, ix6, at7, ix7, atI_map, lkRV, sz0, sz1, sz2, sz3, sz4, sz5, sz6, sz7, sz8, sz9, sz10, sz11, sz12, sz13, sz14, sz15, sz16, ↓hid_val, enum_map, zip_map, rev_map, List.map_cons, List.map_nil, List.length_cons, List.length_nil, List.length_map, List.replicate_succ, List.replicate_zero, List.cons_append, List.nil_append, List.append_nil, Option.bind_some, Option.map_some, Option.isSome_some, Option.isSome_none, reduceCtorEq, Nat.reduceAdd, Nat.reduceSub, Nat.reduceMul, ite_true, ite_false, if_true, if_false, Bool.not_true, Bool.not_false, Bool.not_not, decide_true, decide_false, Bool.false_eq_true, and_true, true_and, len_concat, set_concat, List.set_cons_zero, List.set_cons_succ, List.getD_cons_zero, List.getD_cons_succ, List.take_succ_cons, List.take_zero, List.drop_succ_cons, List.drop_zero, List.getElem?_cons_zero, List.getElem?_cons_succ, ints_map, ints_map', bls_map, or_self, false_or, or_false, true_or, or_true, Nat.zero_add, List.isEmpty_cons, List.isEmpty_nil, lk_rF_many, lk_rF_width, lk_rF_pages, lk_rF_copies, lk_rF_shuts, lk_rF_read, lk_rF_write, lk_rF_need, lk_rF_numbers, lk_rF_own_page, lk_rF_twin, lk_rF_copied, lk_rF_is_shut, lk_rF_shared, lk_pF_kept, lk_pF_holders, lk_vF_held, lk_vF_lengths, lk_vF_begin, lk_vF_steps, lk_vF_tell, lk_vF_room, lk_vF_sides, lk_vF_first, lk_vF_strides, lk_vF_cells, lk_vF_cell, lk_vF_at, lk_vF_put, lk_vF_numbers, lk_vF_nested, lk_vF_twin, lk_vF_copy_of, lk_pZ_kept, lk_pZ_holders, lk_vZ_held, lk_vZ_lengths, lk_vZ_begin, lk_vZ_steps, lk_vZ_tell, lk_vZ_room, lk_vZ_sides, lk_vZ_first, lk_vZ_strides, lk_vZ_cells, lk_vZ_cell, lk_vZ_at, lk_vZ_put, lk_vZ_numbers, lk_vZ_nested, lk_vZ_twin, lk_vZ_copy_of, pt_p_kept, pu_p_kept, pt_p_holders, pu_p_holders, pt_r_many, pu_r_many, pt_r_width, pu_r_width, pt_r_pages, pu_r_pages, pt_r_copies, pu_r_copies, pt_r_shuts, pu_r_shuts, pt_v_held, pu_v_held, pt_v_lengths, pu_v_lengths, pt_v_begin, pu_v_begin, pt_v_steps, pu_v_steps, pr_many, pr_width, pr_pages, pr_copies, pr_shuts, rF_len, List.mem_cons, List.mem_singleton, List.not_mem_nil, Nat.reduceLT, lk_v1_tell, List.set_set, List.getElem?_set_self, get_mid, get_mid2, eq_self, *])
/-! ### rooms and the law's cells together -/
structure St (c : Cn) (h : CH) (W : GW) (o : Own) (L : List (Nat × CO)) : Prop where
  w : Wd c h W o
  C : Cells h o L
theorem St.get {c : Cn} {h : CH} {W : GW} {o : Own} {L : List (Nat × CO)} (S : St c h W o L) {a : Nat} {x : CO} (m : (a, x) ∈ L) : h[a]? = some x := S.C.get m
theorem St.push {c : Cn} {h : CH} {W : GW} {o : Own} {L : List (Nat × CO)} (S : St c h W o L) (x : CO) : St c (h ++ [x]) W o ((h.length, x) :: L) :=
  ⟨S.w.app _, S.C.cons (Classical.byContradiction fun q => Nat.lt_irrefl _ (S.w.lt _ q))⟩
theorem St.put {c : Cn} {h : CH} {W : GW} {o : Own} {L M : List (Nat × CO)} {a : Nat} {x : CO} (S : St c h W o (L ++ (a, x) :: M)) (y : CO) : St c (h.set a y) W o (L ++ (a, y) :: M) :=
  ⟨S.w.set _ (S.C.own (a, x) (by simp)), S.C.put y⟩
theorem St.app {c : Cn} {h : CH} {W : GW} {o : Own} {L : List (Nat × CO)} (S : St c h W o L) (g : CH) : St c (h ++ g) W o L := ⟨S.w.app _, S.C.app _⟩
theorem St.sub {c : Cn} {h : CH} {W : GW} {o : Own} {L M : List (Nat × CO)} (S : St c h W o L) (nd : (M.map (·.1)).Nodup) (s : ∀ x ∈ M, x ∈ L) : St c h W o M := ⟨S.w, S.C.sub nd s⟩
theorem St.perm {c : Cn} {h : CH} {W : GW} {o : Own} {L M : List (Nat × CO)} (S : St c h W o L) (p : L.Perm M) : St c h W o M :=
  S.sub ((p.map (·.1)).nodup_iff.mp S.C.nd) fun x m => p.mem_iff.mpr m
theorem St.fr {c : Cn} {h h' : CH} {W V : GW} {o o' : Own} {L : List (Nat × CO)} (S : St c h W o L) (F : Fr h h' o o') (w : Wd c h' V o') : St c h' V o' L := ⟨w, S.C.fr F⟩
/-- a draw -/
theorem St.draw {c : Cn} {h : CH} {W : GW} {o : Own} {l : Nat} {a b : Int} {M : List (Nat × CO)} (S : St c h W o ((l, .lst [.int a, .int b]) :: M)) (hb : BagOk a b) {m : Int} {Q : WQ} {E : WX'} (h0 : 0 < m) (h1 : m < 2 ^ 120)
    (q : ∀ h' a' b' r, St c h' W o ((l, .lst [.int a', .int b']) :: M) → BagOk a' b' → h'.length = h.length → 0 ≤ r → r < m → Q (.v (.int r)) h') : ap sp_law_take_6e13 [.ref l, .int m] h Q E :=
  ⟨l, a, b, m, rfl, S.get (by simp), hb, h0, h1, fun a' b' r hb' r0 r1 => q _ a' b' r (S.put (L := []) _) hb' (by simp) r0 r1⟩
theorem St.twin {c : Cn} {h : CH} {W : GW} {o : Own} {L : List (Nat × CO)} (S : St c h W o L) {i : Nat} {R : RG} (hi : W.rs[i]? = some R) (few : W.rs.length < 2 ^ 20) {Q : WQ} {E : WX'}
    (q : ∀ h' o', St c h' (W.twn h.length R) o' L → h.length ≤ h'.length → Q (.v (.ref h.length)) h') : ap (sp_Room_twin c) [.ref R.r] h Q E :=
  ⟨W, o, i, R, rfl, S.w, hi, few, fun h' o' w' f => q h' o' (S.fr f w') f.le⟩
theorem St.write {c : Cn} {h : CH} {W : GW} {o : Own} {L : List (Nat × CO)} (S : St c h W o L) {i : Nat} {R : RG} (hi : W.rs[i]? = some R) {cell : Nat} {v : Int} (hc : cell < R.m) (sh : R.sh = 0) {Q : WQ} {E : WX'}
    (q : ∀ h' o', St c h' (W.put h.length i R cell v) o' L → h.length ≤ h'.length → Q (.v .non) h') : ap (sp_Room_write c) [.ref R.r, .int cell, .int v] h Q E :=
  ⟨W, o, i, R, cell, v, rfl, S.w, hi, hc, sh, fun h' o' w' f => q h' o' (S.fr f w') f.le⟩
theorem St.new {c : Cn} {h : CH} {W : GW} {o : Own} {L : List (Nat × CO)} (S : St c h W o L) {v : CV} {ns : List Int} {wd : Nat} (hv : sqOf (.v v) h = some (ns.map .int)) (w0 : 0 < wd) (w1 : wd < 2 ^ 29) (sz : ns.length ≤ 2 ^ 20) (few : W.rs.length < 2 ^ 20) {k : WQ} {E : WX'}
    (q : ∀ h' o', St c h' (W.new h.length ns wd) o' L → h.length ≤ h'.length → k (.v .non) h') : ap (sp_Room_init c) [.ref h.length, v, .int wd] (h ++ [.ins c.Room []]) k E := by
  refine ⟨h.length, v, ns, wd, rfl, len_concat, sq_fr hv (fun a ys ha => ?_), w0, w1, sz, q _ _ (S.fr fr_new (S.w.new w0 w1 sz few)) (fr_new (i := 0) (o := o)).le⟩
  have : a < h.length := by rcases ha with ha | ha <;> exact (List.getElem?_eq_some_iff.mp ha).1
  exact List.getElem?_append_left this
theorem St.ins {c : Cn} {h : CH} {W : GW} {o : Own} {L : List (Nat × CO)} (S : St c h W o L) {i : Nat} {R : RG} (hi : W.rs[i]? = some R) : h[R.r]? = some (.ins c.Room (rF R.m R.w (.ref R.pl) R.cp R.sh)) := (S.w.rm i R hi).at_
theorem St.rm {c : Cn} {h : CH} {W : GW} {o : Own} {L : List (Nat × CO)} (S : St c h W o L) {i : Nat} {R : RG} (hi : W.rs[i]? = some R) : Rm c h R.r (W.nums R) := S.w.rm_ hi
def GW.refs (W : GW) : List CV := W.rs.map fun R => .ref R.r
theorem refs_at {W : GW} {i : Nat} {R : RG} (hi : W.rs[i]? = some R) : atI W.refs (i : Int) = some (.ref R.r) := by
  refine atI_nat ?_
  unfold GW.refs
  rw [List.getElem?_map, hi]; rfl
theorem put_refs {W : GW} {n i : Nat} {R : RG} (hi : W.rs[i]? = some R) {cell : Nat} {v : Int} : (W.put n i R cell v).refs = W.refs := by
  have := congrArg (List.map (fun s : Nat × Nat × Nat × Int => CV.ref s.1)) (put_sk (n := n) hi (cell := cell) (v := v))
  rw [List.map_map, List.map_map] at this
  exact this
theorem put_sh0 {W : GW} {n i : Nat} {R : RG} (hi : W.rs[i]? = some R) {cell : Nat} {v : Int} {P : Int → Prop} (H : ∀ R ∈ W.rs, P R.sh) : ∀ T ∈ (W.put n i R cell v).rs, P T.sh := by
  have := congrArg (List.map (fun s : Nat × Nat × Nat × Int => s.2.2.2)) (put_sk (n := n) hi (cell := cell) (v := v))
  rw [List.map_map, List.map_map] at this
  intro S hS
  have m : S.sh ∈ (W.put n i R cell v).rs.map ((fun s : Nat × Nat × Nat × Int => s.2.2.2) ∘ RG.sk) := List.mem_map.mpr ⟨S, hS, rfl⟩
  rw [this] at m
  obtain ⟨T, hT, e⟩ := List.mem_map.mp m
  rw [← e]; exact H T hT
theorem put_mw {W : GW} {n i : Nat} {R : RG} (hi : W.rs[i]? = some R) {cell : Nat} {v : Int} {P : Nat → Nat → Prop} (H : ∀ R ∈ W.rs, P R.m R.w) : ∀ T ∈ (W.put n i R cell v).rs, P T.m T.w := by
  have := congrArg (List.map (fun s : Nat × Nat × Nat × Int => (s.2.1, s.2.2.1))) (put_sk (n := n) hi (cell := cell) (v := v))
  rw [List.map_map, List.map_map] at this
  intro S hS
  have m : (S.m, S.w) ∈ (W.put n i R cell v).rs.map ((fun s : Nat × Nat × Nat × Int => (s.2.1, s.2.2.1)) ∘ RG.sk) := List.mem_map.mpr ⟨S, hS, rfl⟩
  rw [this] at m
  obtain ⟨T, hT, e⟩ := List.mem_map.mp m
  have := H T hT
  rwa [show T.m = S.m from congrArg Prod.fst e, show T.w = S.w from congrArg Prod.snd e] at this
theorem put_rl {W : GW} {n i : Nat} {R : RG} (hi : W.rs[i]? = some R) {cell : Nat} {v : Int} : (W.put n i R cell v).rs.length = W.rs.length := by
  have := congrArg List.length (put_sk (n := n) hi (cell := cell) (v := v))
  simpa using this
theorem tab_len {W : GW} : W.tab.length = W.rs.length := by simp [GW.tab]
def GW.nil : GW := ⟨[], fun _ => ⟨0, [], 0⟩⟩
theorem Wd.nil (c : Cn) (h : CH) : Wd c h GW.nil (fun _ => none) := ⟨fun i R hi => by simp [GW.nil] at hi, fun i R p hi => by simp [GW.nil] at hi, fun a ha => absurd rfl ha, by simp [GW.nil]⟩
theorem St.setTab {c : Cn} {h : CH} {W : GW} {o : Own} {P Q : List (Nat × CO)} {ds : List Nat} {tab : List (List Int)} (S : St c h W o (P ++ (lstC ds tab ++ Q))) {i d : Nat} {ns : List Int} (hd : ds[i]? = some d) (ht : tab[i]? = some ns) (ms : List Int) :
    St c (h.set d (.lst (ms.map .int))) W o (P ++ (lstC ds (tab.set i ms) ++ Q)) := by
  obtain ⟨A, B, e1, e2⟩ := lstC_split hd ht
  rw [e2]
  rw [e1] at S
  have e : ∀ x : CO, P ++ ((A ++ (d, x) :: B) ++ Q) = (P ++ A) ++ (d, x) :: (B ++ Q) := fun x => by simp
  rw [e] at S ⊢
  exact S.put _
theorem St.setTab' {c : Cn} {h : CH} {W : GW} {o : Own} {P : List (Nat × CO)} {ds : List Nat} {tab : List (List Int)} (S : St c h W o (P ++ lstC ds tab)) {i d : Nat} {ns : List Int} (hd : ds[i]? = some d) (ht : tab[i]? = some ns) (ms : List Int) :
    St c (h.set d (.lst (ms.map .int))) W o (P ++ lstC ds (tab.set i ms)) := by
  have := St.setTab (Q := []) (by simpa using S) hd ht ms
  simpa using this
theorem lstC_at {ds : List Nat} {tab : List (List Int)} {i d : Nat} {ns : List Int} (hd : ds[i]? = some d) (ht : tab[i]? = some ns) : (d, CO.lst (ns.map .int)) ∈ lstC ds tab := by
  obtain ⟨A, B, e, _⟩ := lstC_split hd ht
  rw [e]; simp
/-! the same, with what is closed -/
end G

namespace G
open PySem PySem.Spec PyProof.Rows L2
/-! ### names of pages -/
def Us (W : GW) (p : Nat) : Prop := ∃ R ∈ W.rs, p ∈ R.ps
structure Nm (W : GW) (f : Nat → Int) (g : Nat → Nat) (cnt : Int) : Prop where
  inj : ∀ p q, Us W p → Us W q → f p = f q → p = q
  pos : ∀ R ∈ W.rs, ∀ a p, R.ps[a]? = some p → g p = a
  lt : ∀ p, Us W p → f p < cnt
def GW.nmT (W : GW) (f : Nat → Int) : List (List Int) := W.rs.map fun R => R.ps.map f
theorem nm_nil {f : Nat → Int} {g : Nat → Nat} : Nm GW.nil f g 0 :=
  ⟨fun p q u => (by obtain ⟨R, m, _⟩ := u; cases m), fun R m => (by cases m), fun p u => (by obtain ⟨R, m, _⟩ := u; cases m)⟩
theorem us_twn {W : GW} {n : Nat} {R : RG} (m : R ∈ W.rs) {p : Nat} : Us (W.twn n R) p → Us W p := by
  rintro ⟨S, hS, q⟩
  rcases List.mem_append.mp (show S ∈ W.rs ++ [_] from hS) with h | h
  · exact ⟨S, h, q⟩
  · rw [List.mem_singleton.mp h] at q; exact ⟨R, m, q⟩
theorem nm_twn {W : GW} {f : Nat → Int} {g : Nat → Nat} {cnt : Int} (N : Nm W f g cnt) {n : Nat} {R : RG} (m : R ∈ W.rs) : Nm (W.twn n R) f g cnt :=
  ⟨fun p q a b e => N.inj p q (us_twn m a) (us_twn m b) e, fun S hS a p hp => by
    rcases List.mem_append.mp (show S ∈ W.rs ++ [_] from hS) with h | h
    · exact N.pos S h a p hp
    · rw [List.mem_singleton.mp h] at hp; exact N.pos R m a p hp, fun p a => N.lt p (us_twn m a)⟩
theorem nmT_twn {W : GW} {f : Nat → Int} {n : Nat} {R : RG} : (W.twn n R).nmT f = W.nmT f ++ [R.ps.map f] := by
  show (W.rs ++ [_]).map _ = _
  rw [List.map_append]; rfl
theorem us_lt {c : Cn} {h : CH} {W : GW} {o : Own} (w : Wd c h W o) {p : Nat} (u : Us W p) : p < h.length := by
  obtain ⟨R, m, q⟩ := u
  obtain ⟨i, hi⟩ := List.mem_iff_getElem?.mp m
  exact w.lt p (by rw [(w.pg i R p hi q).op]; simp)
theorem nm_new {c : Cn} {h : CH} {W : GW} {o : Own} (w : Wd c h W o) {f : Nat → Int} {g : Nat → Nat} {cnt : Int} (N : Nm W f g cnt) (ns : List Int) (wd : Nat) :
    ∃ f' g', Nm (W.new h.length ns wd) f' g' (cnt + ((chunk wd ns).length : Nat)) ∧ (W.new h.length ns wd).nmT f' = W.nmT f ++ [(List.range (chunk wd ns).length).map fun i : Nat => cnt + (i : Int)] := by
  obtain ⟨k, hk⟩ : ∃ k, k = (chunk wd ns).length := ⟨_, rfl⟩
  obtain ⟨n, hn⟩ : ∃ n, n = h.length := ⟨_, rfl⟩
  have U : ∀ p, Us W p → p < n := fun p u => by rw [hn]; exact us_lt w u
  rw [← hk, ← hn]
  obtain ⟨f', hf⟩ : ∃ f' : Nat → Int, f' = fun q => if n ≤ q then cnt + (((q - (n + 1)) / 2 : Nat) : Int) else f q := ⟨_, rfl⟩
  obtain ⟨g', hg⟩ : ∃ g' : Nat → Nat, g' = fun q => if n ≤ q then (q - (n + 1)) / 2 else g q := ⟨_, rfl⟩
  have f0 : ∀ q, q < n → f' q = f q := fun q l => by rw [hf]; exact if_neg (by omega)
  have f1 : ∀ i, f' (n + 1 + 2 * i + 1) = cnt + (i : Int) := fun i => by
    rw [hf]
    show (if n ≤ n + 1 + 2 * i + 1 then cnt + (((n + 1 + 2 * i + 1 - (n + 1)) / 2 : Nat) : Int) else _) = _
    rw [if_pos (by omega), show (n + 1 + 2 * i + 1 - (n + 1)) / 2 = i by omega]
  have g1 : ∀ i, g' (n + 1 + 2 * i + 1) = i := fun i => by
    rw [hg]
    show (if n ≤ n + 1 + 2 * i + 1 then (n + 1 + 2 * i + 1 - (n + 1)) / 2 else _) = _
    rw [if_pos (by omega)]; omega
  have V : ∀ p, Us (W.new n ns wd) p → Us W p ∨ ∃ i, i < k ∧ p = n + 1 + 2 * i + 1 := by
    rintro p ⟨S, hS, q⟩
    rcases List.mem_append.mp (show S ∈ W.rs ++ [_] from hS) with h | h
    · exact .inl ⟨S, h, q⟩
    · rw [List.mem_singleton.mp h] at q
      rw [hk]
      exact .inr (refs_mem.mp q)
  refine ⟨f', g', ⟨fun p q a b e => ?_, fun S hS a p hp => ?_, fun p a => ?_⟩, ?_⟩
  · rcases V p a with a | ⟨i, hi, rfl⟩
    · rcases V q b with b | ⟨j, hj, rfl⟩
      · rw [f0 p (U p a), f0 q (U q b)] at e
        exact N.inj p q a b e
      · rw [f0 p (U p a), f1] at e
        have := N.lt p a
        omega
    · rcases V q b with b | ⟨j, hj, rfl⟩
      · rw [f0 q (U q b), f1] at e
        have := N.lt q b
        omega
      · rw [f1, f1] at e; omega
  · rcases List.mem_append.mp (show S ∈ W.rs ++ [_] from hS) with h | h
    · have l := U p ⟨S, h, List.mem_of_getElem? hp⟩
      rw [hg]
      show (if n ≤ p then _ else g p) = a
      rw [if_neg (by omega)]
      exact N.pos S h a p hp
    · rw [List.mem_singleton.mp h] at hp
      have la := (List.getElem?_eq_some_iff.mp hp).1
      have lk : a < (chunk wd ns).length := by
        have : (newRefs (n + 1) (chunk wd ns).length).length = (chunk wd ns).length := by unfold newRefs; simp
        rw [← this]; exact la
      have := refs_get (n := n + 1) lk
      have e : p = n + 1 + 2 * a + 1 := Option.some.inj (hp.symm.trans this)
      rw [e]; exact g1 a
  · rcases V p a with a | ⟨i, hi, rfl⟩
    · rw [f0 p (U p a)]; have := N.lt p a; omega
    · rw [f1]; omega
  · show (W.rs ++ [_]).map _ = W.rs.map _ ++ _
    rw [List.map_append]
    congr 1
    · refine List.map_congr_left fun S hS => List.map_congr_left fun p hp => f0 p (U p ⟨S, hS, hp⟩)
    · show [List.map f' (newRefs (n + 1) (chunk wd ns).length)] = _
      rw [← hk]
      unfold newRefs
      rw [List.map_map]
      congr 1
      exact List.map_congr_left fun i _ => f1 i
/-- how many name tables hold a name -/
theorem nm_cnt {c : Cn} {h : CH} {W : GW} {o : Own} (w : Wd c h W o) {f : Nat → Int} {g : Nat → Nat} {cnt : Int} (N : Nm W f g cnt) {p : Nat} (u : Us W p) : ((W.nmT f).map fun nm => (((nm.count (f p) : Nat)) : Int)).sum = (W.hold p : Int) := by
  unfold GW.nmT GW.hold
  rw [List.map_map]
  have key : ∀ (rs : List RG), (∀ R ∈ rs, R ∈ W.rs) → (rs.map ((fun nm => (((nm.count (f p) : Nat)) : Int)) ∘ fun R : RG => R.ps.map f)).sum = ((rs.countP fun R => decide (p ∈ R.ps) : Nat) : Int) := by
    intro rs
    induction rs with
    | nil => intro _; rfl
    | cons R rs ih =>
      intro H
      have m := H R List.mem_cons_self
      obtain ⟨i, hi⟩ := List.mem_iff_getElem?.mp m
      have nd := (w.rm i R hi).nd
      rw [List.map_cons, List.sum_cons, ih fun S hS => H S (List.mem_cons_of_mem _ hS), List.countP_cons]
      have : (R.ps.map f).count (f p) = if p ∈ R.ps then 1 else 0 := by
        have aux : ∀ (l : List Nat), (∀ q ∈ l, q ∈ R.ps) → l.Nodup → (l.map f).count (f p) = if p ∈ l then 1 else 0 := by
          intro l
          induction l with
          | nil => intro _ _; rfl
          | cons q l ih2 =>
            intro hl nl
            rw [List.map_cons, List.count_cons, ih2 (fun x hx => hl x (List.mem_cons_of_mem _ hx)) (List.nodup_cons.mp nl).2]
            by_cases e : q = p
            · subst e
              rw [if_neg (List.nodup_cons.mp nl).1, if_pos List.mem_cons_self]; simp
            · have ne : f q ≠ f p := fun z => e (N.inj q p ⟨R, m, hl q List.mem_cons_self⟩ u z)
              have e2 : (p ∈ q :: l) = (p ∈ l) := by rw [List.mem_cons]; exact propext ⟨fun z => z.elim (fun z => absurd z.symm e) id, .inr⟩
              have e3 : (f q == f p) = false := by simpa using ne
              rw [e3]
              simp only [e2]
              by_cases z : p ∈ l
              · rw [if_pos z]; rfl
              · rw [if_neg z]; rfl
        exact aux R.ps (fun _ h => h) nd
      show ((((R.ps.map f).count (f p) : Nat) : Int)) + _ = _
      rw [this]
      by_cases e : p ∈ R.ps
      · rw [if_pos e]; simp [e]; omega
      · rw [if_neg e]; simp [e]
  exact key W.rs fun R m => m
/-- where two rooms share a page -/
def shrd (a b : List Nat) (n : Nat) : List Int := ((a.zip b).zipIdx n).filterMap fun x => if x.1.1 = x.1.2 then some ((x.2 : Nat) : Int) else none
def dueD (a : List Int) (b : List Int) (n : Nat) : List Int := (a.zipIdx n).filterMap fun x => if x.1 ∈ b then some ((x.2 : Nat) : Int) else none
theorem shr_gen {f : Nat → Int} {bs : List Int} : ∀ (a b : List Nat) (n : Nat), (∀ (k x : Nat), a[k]? = some x → (f x ∈ bs ↔ b[k]? = some x)) → dueD (a.map f) bs n = shrd a b n
  | [], b, n, _ => by simp [dueD, shrd]
  | x :: a, [], n, H => by
    have ih := shr_gen a [] (n + 1) (fun k y hk => by have := H (k + 1) y (by simpa using hk); simpa using this)
    have : f x ∉ bs := fun q => by have := (H 0 x rfl).mp q; cases this
    unfold dueD shrd at ih ⊢
    rw [List.map_cons, List.zipIdx_cons, List.filterMap_cons, if_neg this]
    simpa using ih
  | x :: a, y :: b, n, H => by
    have ih := shr_gen a b (n + 1) (fun k z hk => by have := H (k + 1) z (by simpa using hk); simpa using this)
    have h0 : f x ∈ bs ↔ y = x := by have := H 0 x rfl; simpa using this
    unfold dueD shrd at ih ⊢
    rw [List.map_cons, List.zipIdx_cons, List.filterMap_cons, List.zip_cons_cons, List.zipIdx_cons, List.filterMap_cons, ih]
    by_cases e : x = y
    · rw [if_pos (h0.mpr e.symm), if_pos e]
    · rw [if_neg (fun q => e (h0.mp q).symm), if_neg e]
theorem shr_eq {W : GW} {f : Nat → Int} {g : Nat → Nat} {cnt : Int} (N : Nm W f g cnt) {R S : RG} (mR : R ∈ W.rs) (mS : S ∈ W.rs) : dueD (R.ps.map f) (S.ps.map f) 0 = shrd R.ps S.ps 0 := by
  refine shr_gen _ _ _ fun k x hk => ?_
  constructor
  · intro m
    obtain ⟨q, hq, e⟩ := List.mem_map.mp m
    have := N.inj q x ⟨S, mS, hq⟩ ⟨R, mR, List.mem_of_getElem? hk⟩ e
    subst this
    obtain ⟨b, hb⟩ := List.mem_iff_getElem?.mp hq
    have e1 := N.pos R mR k q hk
    have e2 := N.pos S mS b q hb
    rw [← e1, e2]; exact hb
  · intro e
    exact List.mem_map.mpr ⟨x, List.mem_of_getElem? e, rfl⟩
/-- a write -/
theorem nm_same {W V : GW} {f : Nat → Int} {g : Nat → Nat} {cnt : Int} (N : Nm W f g cnt) (e : V.rs = W.rs) : Nm V f g cnt ∧ V.nmT f = W.nmT f := by
  have u : ∀ p, Us V p → Us W p := fun p ⟨R, m, q⟩ => ⟨R, e ▸ m, q⟩
  exact ⟨⟨fun p q a b => N.inj p q (u p a) (u q b), fun R m => N.pos R (e ▸ m), fun p a => N.lt p (u p a)⟩, by unfold GW.nmT; rw [e]⟩
theorem nm_put {c : Cn} {h : CH} {W : GW} {o : Own} (w : Wd c h W o) {f : Nat → Int} {g : Nat → Nat} {cnt : Int} (N : Nm W f g cnt) {i : Nat} {R : RG} (hi : W.rs[i]? = some R) {cell p : Nat} {v : Int} (hp : R.ps[cell / R.w]? = some p) (e : (W.nums R)[cell]? ≠ some v) :
    (¬ 1 < W.hold p → Nm (W.put h.length i R cell v) f g cnt ∧ (W.put h.length i R cell v).nmT f = W.nmT f) ∧
    (1 < W.hold p → ∃ f' g', Nm (W.put h.length i R cell v) f' g' (cnt + 1) ∧ (W.put h.length i R cell v).nmT f' = (W.nmT f).set i ((R.ps.map f).set (cell / R.w) cnt)) := by
  have pm := List.mem_of_getElem? hp
  have hd := (w.pg i R p hi pm).hd
  have mR := List.mem_of_getElem? hi
  refine ⟨fun z => ?_, fun z => ?_⟩
  · rw [put_1 e hp (by omega)]
    exact nm_same N rfl
  · rw [put_2 e hp (by omega)]
    obtain ⟨n, hn⟩ : ∃ n, n = h.length := ⟨_, rfl⟩
    have U : ∀ q, Us W q → q < n := fun q u => by rw [hn]; exact us_lt w u
    have la := (List.getElem?_eq_some_iff.mp hp).1
    have li := (List.getElem?_eq_some_iff.mp hi).1
    rw [← hn]
    generalize hG : (⟨n, (W.pg p).ns.set (cell % R.w) v, 1⟩ : PG) = G
    generalize ha : cell / R.w = a at hp la
    obtain ⟨f', hf⟩ : ∃ f' : Nat → Int, f' = fun q => if q = n + 1 then cnt else f q := ⟨_, rfl⟩
    obtain ⟨g', hg⟩ : ∃ g' : Nat → Nat, g' = fun q => if q = n + 1 then a else g q := ⟨_, rfl⟩
    have f1 : f' (n + 1) = cnt := by rw [hf]; exact if_pos rfl
    have f0 : ∀ q, q < n → f' q = f q := fun q l => by rw [hf]; exact if_neg (by omega)
    have g1 : g' (n + 1) = a := by rw [hg]; exact if_pos rfl
    have g0 : ∀ q, q < n → g' q = g q := fun q l => by rw [hg]; exact if_neg (by omega)
    have mem : ∀ S ∈ (W.put2 n i R a p G).rs, S ∈ W.rs ∨ S = { R with ps := R.ps.set a (n + 1), cp := R.cp + 1 } := fun S hS => by
      have := List.mem_or_eq_of_mem_set (show S ∈ W.rs.set i _ from hS)
      exact this
    have V : ∀ q, Us (W.put2 n i R a p G) q → Us W q ∨ q = n + 1 := by
      rintro q ⟨S, hS, m⟩
      rcases mem S hS with h | rfl
      · exact .inl ⟨S, h, m⟩
      · rcases (mem_set la).mp m with e | ⟨b, _, hb⟩
        · exact .inr e
        · exact .inl ⟨R, mR, List.mem_of_getElem? hb⟩
    refine ⟨f', g', ⟨fun x y a b e => ?_, fun S hS b q hb => ?_, fun x a => ?_⟩, ?_⟩
    · rcases V x a with a | rfl
      · rcases V y b with b | rfl
        · rw [f0 x (U x a), f0 y (U y b)] at e; exact N.inj x y a b e
        · rw [f0 x (U x a), f1] at e; have := N.lt x a; omega
      · rcases V y b with b | rfl
        · rw [f0 y (U y b), f1] at e; have := N.lt y b; omega
        · rfl
    · rcases mem S hS with h | rfl
      · rw [g0 q (U q ⟨S, h, List.mem_of_getElem? hb⟩)]; exact N.pos S h b q hb
      · have hb : (R.ps.set a (n + 1))[b]? = some q := hb
        rw [List.getElem?_set] at hb
        split at hb
        · rename_i z
          cases hb
          rw [g1, z]
        · rw [g0 q (U q ⟨R, mR, List.mem_of_getElem? hb⟩)]; exact N.pos R mR b q hb
    · rcases V x a with a | rfl
      · rw [f0 x (U x a)]; have := N.lt x a; omega
      · rw [f1]; omega
    · show (W.rs.set i _).map _ = (W.rs.map _).set i _
      rw [List.map_set]
      have e1 : W.rs.map (fun R => R.ps.map f') = W.rs.map fun R => R.ps.map f :=
        List.map_congr_left fun S hS => List.map_congr_left fun q hq => f0 q (U q ⟨S, hS, hq⟩)
      rw [e1]
      congr 1
      show (R.ps.set a (n + 1)).map f' = _
      rw [List.map_set, f1]
      congr 1
      exact List.map_congr_left fun q hq => f0 q (U q ⟨R, mR, hq⟩)
theorem nmT_at {W : GW} {f : Nat → Int} {i : Nat} {R : RG} (hi : W.rs[i]? = some R) : (W.nmT f)[i]? = some (R.ps.map f) := by unfold GW.nmT; rw [List.getElem?_map, hi]; rfl
theorem nmT_len {W : GW} {f : Nat → Int} : (W.nmT f).length = W.rs.length := by simp [GW.nmT]
end G

namespace G
open PySem PySem.Spec PyProof.Rows L2
local macro_rules | `(tactic| walk_at "gs") => `(tactic| try simp -implicitDefEqProofs only [↓h_oP, ↓h_vr, ↓h_vI, ↓h_cnd, ↓h_eqR, ↓h_inR, ↓h_ap, ↓h_wLoop, ↓h_wComp, ↓h_gcd, ↓h_fldC, ↓h_stC, ↓h_stFC, ↓h_agC, ↓h_mtC, ↓h_exC, ↓h_lenC, ↓h_eqOR, ↓h_eqIR, ↓h_eqMR, ↓h_bmC, ↓h_apC, ↓x_skip, ↓x_seq, ↓x_asg, ↓x_asgT, ↓x_asgS, ↓x_asgD, ↓x_setIx, ↓x_setFld, ↓x_aug, ↓x_augFld, ↓x_ret, ↓x_ex, ↓x_ifS, ↓x_for, ↓x_brk, ↓x_bad, ↓x_badE, ↓x_cont, ↓x_ret0, ↓x_con, ↓x_var, ↓x_thaw, ↓x_cool, ↓x_maxD, ↓x_bin, ↓x_neg, ↓x_nt, ↓x_cmp, ↓x_chn, ↓x_an, ↓x_orr, ↓x_ife, ↓x_tup, ↓x_lst, ↓x_ix, ↓x_sl, ↓x_sl3, ↓x_srev, ↓x_fld, ↓x_call, ↓x_callk, ↓x_newk, ↓x_lrng, ↓x_lnrg, ↓x_lenI, ↓x_cmpO, ↓x_cmpM, ↓x_cmpI, ↓x_lenL, ↓x_lenA, ↓x_lenT, ↓x_lenO, ↓x_lenR, ↓x_lenCi, ↓x_lenCl, ↓x_lenCf, ↓x_new, ↓x_mth, ↓x_blt, ↓x_bm, ↓x_isi, ↓x_lc, ↓x_lc2, ↓x_yes, ↓x_val, ↓x_ntB, ↓x_anB, ↓x_orB, ↓x_oN, ↓x_oS, ↓x_nil, ↓x_cons, ↓x_ival, ↓x_rng1, ↓x_rng2, ↓x_rng3, ↓x_enum, ↓x_enumz, ↓x_zip, ↓x_rev, ↓x_oPs, ↓x_vrs, ↓x_vIs, ↓x_inI, ↓x_inB, ↓x_inV, ↓x_toI, ↓x_toIb, ↓x_toB, ↓x_toBb, ↓x_cT, ↓x_cF, ↓x_cN, ↓x_thwA, ↓x_thwV, ↓x_adV, ↓x_adA, ↓x_asN, ↓x_asV, ↓x_asA, ↓x_fldO, ↓x_ixN, ↓x_mthO, ↓x_bII, ↓x_bTI, ↓x_bTT, ↓x_blAA, ↓x_blAL, ↓x_bmA, ↓x_blLA, ↓x_blLL, ↓x_bmL, ↓x_blRA, ↓x_blRL, ↓x_blRR, ↓x_blAR, ↓x_blLR, ↓x_binIp, ↓x_binIs, ↓x_binIm, ↓x_binId, ↓x_binIr, ↓x_binAp, ↓x_binAs, ↓x_binAm, ↓x_binAd, ↓x_binAr, ↓x_binIw, ↓x_lt, ↓x_le, ↓x_gt, ↓x_ge, ↓x_eq, ↓x_ne, ↓x_is, ↓x_isn, ↓x_in, ↓x_nin, ↓x_eqI, ↓x_eqT, ↓x_oInt, ↓x_iInt, ↓x_oBl, ↓x_iBl, ↓x_oNon, ↓x_iNon, ↓x_oTup, ↓x_iTup, ↓x_oLst, ↓x_iLst, ↓x_oAl, ↓x_iAl, ↓x_oStr, ↓x_iStr, ↓x_ixR, ↓x_slT, ↓x_slA, ↓x_slL, ↓x_slR, ↓x_sl3R, ↓x_partI, ↓x_partN, ↓x_hdC, ↓x_srT, ↓x_srA, ↓x_srL, ↓x_srR, ↓x_len, ↓x_abs, ↓x_min, ↓x_max, ↓x_min1, ↓x_max1, ↓x_sum, ↓x_all, ↓x_any, ↓x_int, ↓x_bool, ↓x_list, ↓x_tuple, ↓x_dm, ↓x_fldR0, ↓x_fldC, ↓x_stIx0, ↓x_stC, ↓x_stFld0, ↓x_stFC, ↓x_agFld0, ↓x_agC, ↓x_mth0, ↓x_mtC, ↓x_apd0, ↓x_bm_remove, ↓x_bm_pop, ↓x_bm_insert, ↓x_bm_reverse, ↓x_bm_clear, ↓x_bmCl, ↓x_cnt, ↓x_idxm, ↓x_bmK, ↓x_ext0, ↓x_exC, ↓x_apC, Bool.true_xor, Bool.false_xor, bfRm, bfP0, bfP1, bfIn, bfRv, bfCl, sqT, sqL, sqA, lsL, lsA, lmL, lmA, lmR, lmCl, cvT, cvF, arN, arP, arK, arD, lkHit, tpTv, tpT, tpL, tpA, tpR, trN, trB, trI, trT, trL, trA, itN, itB, itI, itS, itT, itL, itA, itO, sqR, lsR, lsCl, lsCf, trR, trCl, trCf, itR, itCl, itCf, itCi, gv0, gvS, sv0, svS, uv0, uvS, svsN, svsC, uvsN, uvsC, wGn, wGt, wGsN, wGsC, ctNn, ctNt, ctNsN, ctNsC, st0E, isNN, isBN, isIN, isSN, isTN, isLN, isON, isRN, isAN, isBB, at0, ix0, at1, ix1, at2, ix2, at3, ix3, at4, ix4, at5, ix5, at6, ix6, at7, ix7, atI_map, lkRV, sz0, sz1, sz2, sz3, sz4, sz5, sz6, sz7, sz8, sz9, sz10, sz11, sz12, sz13, sz14, sz15, sz16, ↓hid_val, enum_map, zip_map, rev_map, List.map_cons, List.map_nil, List.length_cons, List.length_nil, List.length_map, List.replicate_succ, List.replicate_zero, List.cons_append, List.nil_append, List.append_nil, Option.bind_some, Option.map_some, Option.isSome_some, Option.isSome_none, reduceCtorEq, Nat.reduceAdd, Nat.reduceSub, Nat.reduceMul, ite_true, ite_false, if_true, if_false, Bool.not_true, Bool.not_false, Bool.not_not, decide_true, decide_false, Bool.false_eq_true, and_true, true_and, len_concat, set_concat, List.set_cons_zero, List.set_cons_succ, List.getD_cons_zero, List.getD_cons_succ, List.take_succ_cons, List.take_zero, List.drop_succ_cons, List.drop_zero, List.getElem?_cons_zero, List.getElem?_cons_succ, ints_map, ints_map', bls_map, or_self, false_or, or_false, true_or, or_true, Nat.zero_add, List.isEmpty_cons, List.isEmpty_nil, lk_rF_many, lk_rF_width, lk_rF_pages, lk_rF_copies, lk_rF_shuts, lk_rF_read, lk_rF_write, lk_rF_need, lk_rF_numbers, lk_rF_own_page, lk_rF_twin, lk_rF_copied, lk_rF_is_shut, lk_rF_shared, lk_pF_kept, lk_pF_holders, lk_vF_held, lk_vF_lengths, lk_vF_begin, lk_vF_steps, lk_vF_tell, lk_vF_room, lk_vF_sides, lk_vF_first, lk_vF_strides, lk_vF_cells, lk_vF_cell, lk_vF_at, lk_vF_put, lk_vF_numbers, lk_vF_nested, lk_vF_twin, lk_vF_copy_of, lk_pZ_kept, lk_pZ_holders, lk_vZ_held, lk_vZ_lengths, lk_vZ_begin, lk_vZ_steps, lk_vZ_tell, lk_vZ_room, lk_vZ_sides, lk_vZ_first, lk_vZ_strides, lk_vZ_cells, lk_vZ_cell, lk_vZ_at, lk_vZ_put, lk_vZ_numbers, lk_vZ_nested, lk_vZ_twin, lk_vZ_copy_of, pt_p_kept, pu_p_kept, pt_p_holders, pu_p_holders, pt_r_many, pu_r_many, pt_r_width, pu_r_width, pt_r_pages, pu_r_pages, pt_r_copies, pu_r_copies, pt_r_shuts, pu_r_shuts, pt_v_held, pu_v_held, pt_v_lengths, pu_v_lengths, pt_v_begin, pu_v_begin, pt_v_steps, pu_v_steps, pr_many, pr_width, pr_pages, pr_copies, pr_shuts, rF_len, List.mem_cons, List.mem_singleton, List.not_mem_nil, Nat.reduceLT, lk_v1_tell, List.set_set, List.getElem?_set_self, get_mid, get_mid2, eq_self])
local macro_rules | `(tactic| walk_at "gc") => `(tactic| first | refine cnd_t (decide_eq_true (by omega)) ?_ | refine cnd_f (decide_eq_false (by omega)) ?_)
local macro_rules | `(tactic| walk_at "gw") => `(tactic| (walk_at "gs"; repeat (walk_at "gc"; walk_at "gs")))
local macro_rules | `(tactic| walk_at "gv") => `(tactic| (walk_at "gs"; repeat ((first | refine ap_room ?_ | refine ap_sides ?_ | refine ap_first ?_ | refine ap_strides ?_); walk_at "gs")))
local macro_rules | `(tactic| walk_at "gu") => `(tactic| (walk_at "gv"; repeat (walk_at "gc"; walk_at "gv")))
local macro_rules | `(tactic| walk_at "gh") => `(tactic| try simp -implicitDefEqProofs only [↓h_oP, ↓h_vr, ↓h_vI, ↓h_cnd, ↓h_eqR, ↓h_inR, ↓h_ap, ↓h_wLoop, ↓h_wComp, ↓h_gcd, ↓h_fldC, ↓h_stC, ↓h_stFC, ↓h_agC, ↓h_mtC, ↓h_exC, ↓h_lenC, ↓h_eqOR, ↓h_eqIR, ↓h_eqMR, ↓h_bmC, ↓h_apC, ↓x_skip, ↓x_seq, ↓x_asg, ↓x_asgT, ↓x_asgS, ↓x_asgD, ↓x_setIx, ↓x_setFld, ↓x_aug, ↓x_augFld, ↓x_ret, ↓x_ex, ↓x_ifS, ↓x_for, ↓x_brk, ↓x_bad, ↓x_badE, ↓x_cont, ↓x_ret0, ↓x_con, ↓x_var, ↓x_thaw, ↓x_cool, ↓x_maxD, ↓x_bin, ↓x_neg, ↓x_nt, ↓x_cmp, ↓x_chn, ↓x_an, ↓x_orr, ↓x_ife, ↓x_tup, ↓x_lst, ↓x_ix, ↓x_sl, ↓x_sl3, ↓x_srev, ↓x_fld, ↓x_call, ↓x_callk, ↓x_newk, ↓x_lrng, ↓x_lnrg, ↓x_lenI, ↓x_cmpO, ↓x_cmpM, ↓x_cmpI, ↓x_lenL, ↓x_lenA, ↓x_lenT, ↓x_lenO, ↓x_lenR, ↓x_lenCi, ↓x_lenCl, ↓x_lenCf, ↓x_new, ↓x_mth, ↓x_blt, ↓x_bm, ↓x_isi, ↓x_lc, ↓x_lc2, ↓x_yes, ↓x_val, ↓x_ntB, ↓x_anB, ↓x_orB, ↓x_oN, ↓x_oS, ↓x_nil, ↓x_cons, ↓x_ival, ↓x_rng1, ↓x_rng2, ↓x_rng3, ↓x_enum, ↓x_enumz, ↓x_zip, ↓x_rev, ↓x_oPs, ↓x_vrs, ↓x_vIs, ↓x_inI, ↓x_inB, ↓x_inV, ↓x_toI, ↓x_toIb, ↓x_toB, ↓x_toBb, ↓x_cT, ↓x_cF, ↓x_cN, ↓x_thwA, ↓x_thwV, ↓x_adV, ↓x_adA, ↓x_asN, ↓x_asV, ↓x_asA, ↓x_fldO, ↓x_ixN, ↓x_mthO, ↓x_bII, ↓x_bTI, ↓x_bTT, ↓x_blAA, ↓x_blAL, ↓x_bmA, ↓x_blLA, ↓x_blLL, ↓x_bmL, ↓x_blRA, ↓x_blRL, ↓x_blRR, ↓x_blAR, ↓x_blLR, ↓x_binIp, ↓x_binIs, ↓x_binIm, ↓x_binId, ↓x_binIr, ↓x_binAp, ↓x_binAs, ↓x_binAm, ↓x_binAd, ↓x_binAr, ↓x_binIw, ↓x_lt, ↓x_le, ↓x_gt, ↓x_ge, ↓x_eq, ↓x_ne, ↓x_is, ↓x_isn, ↓x_in, ↓x_nin, ↓x_eqI, ↓x_eqT, ↓x_oInt, ↓x_iInt, ↓x_oBl, ↓x_iBl, ↓x_oNon, ↓x_iNon, ↓x_oTup, ↓x_iTup, ↓x_oLst, ↓x_iLst, ↓x_oAl, ↓x_iAl, ↓x_oStr, ↓x_iStr, ↓x_ixR, ↓x_slT, ↓x_slA, ↓x_slL, ↓x_slR, ↓x_sl3R, ↓x_partI, ↓x_partN, ↓x_hdC, ↓x_srT, ↓x_srA, ↓x_srL, ↓x_srR, ↓x_len, ↓x_abs, ↓x_min, ↓x_max, ↓x_min1, ↓x_max1, ↓x_sum, ↓x_all, ↓x_any, ↓x_int, ↓x_bool, ↓x_list, ↓x_tuple, ↓x_dm, ↓x_fldR0, ↓x_fldC, ↓x_stIx0, ↓x_stC, ↓x_stFld0, ↓x_stFC, ↓x_agFld0, ↓x_agC, ↓x_mth0, ↓x_mtC, ↓x_apd0, ↓x_bm_remove, ↓x_bm_pop, ↓x_bm_insert, ↓x_bm_reverse, ↓x_bm_clear, ↓x_bmCl, ↓x_cnt, ↓x_idxm, ↓x_bmK, ↓x_ext0, ↓x_exC, ↓x_apC, Bool.true_xor, Bool.false_xor, bfRm, bfP0, bfP1, bfIn, bfRv, bfCl, sqT, sqL, sqA, lsL, lsA, lmL, lmA, lmR, lmCl, cvT, cvF, arN, arP, arK, arD, lkHit, tpTv, tpT, tpL, tpA, tpR, trN, trB, trI, trT, trL, trA, itN, itB, itI, itS, itT, itL, itA, itO, sqR, lsR, lsCl, lsCf, trR, trCl, trCf, itR, itCl, itCf, itCi, gv0, gvS, sv0, svS, uv0, uvS, svsN, svsC, uvsN, uvsC, wGn, wGt, wGsN, wGsC, ctNn, ctNt, ctNsN, ctNsC, st0E, isNN, isBN, isIN, isSN, isTN, isLN, isON, isRN, isAN, isBB, at0, ix0, at1, ix1, at2, ix2, at3, ix3, at4, ix4, at5, ix5, at6, ix6, at7, ix7, atI_map, lkRV, sz0, sz1, sz2, sz3, sz4, sz5, sz6, sz7, sz8, sz9, sz10, sz11, sz12, sz13, sz14, sz15, sz16, ↓hid_val, enum_map, zip_map, rev_map, List.map_cons, List.map_nil, List.length_cons, List.length_nil, List.length_map, List.replicate_succ, List.replicate_zero, List.cons_append, List.nil_append, List.append_nil, Option.bind_some, Option.map_some, Option.isSome_some, Option.isSome_none, reduceCtorEq, Nat.reduceAdd, Nat.reduceSub, Nat.reduceMul, ite_true, ite_false, if_true, if_false, Bool.not_true, Bool.not_false, Bool.not_not, decide_true, decide_false, Bool.false_eq_true, and_true, true_and, len_concat, set_concat, List.set_cons_zero, List.set_cons_succ, List.getD_cons_zero, List.getD_cons_succ, List.take_succ_cons, List.take_zero, List.drop_succ_cons, List.drop_zero, List.getElem?_cons_zero, List.getElem?_cons_succ, ints_map, ints_map', bls_map, or_self, false_or, or_false, true_or, or_true, Nat.zero_add, List.isEmpty_cons, List.isEmpty_nil, lk_rF_many, lk_rF_width, lk_rF_pages, lk_rF_copies, lk_rF_shuts, lk_rF_read, lk_rF_write, lk_rF_need, lk_rF_numbers, lk_rF_own_page, lk_rF_twin, lk_rF_copied, lk_rF_is_shut, lk_rF_shared, lk_pF_kept, lk_pF_holders, lk_vF_held, lk_vF_lengths, lk_vF_begin, lk_vF_steps, lk_vF_tell, lk_vF_room, lk_vF_sides, lk_vF_first, lk_vF_strides, lk_vF_cells, lk_vF_cell, lk_vF_at, lk_vF_put, lk_vF_numbers, lk_vF_nested, lk_vF_twin, lk_vF_copy_of, lk_pZ_kept, lk_pZ_holders, lk_vZ_held, lk_vZ_lengths, lk_vZ_begin, lk_vZ_steps, lk_vZ_tell, lk_vZ_room, lk_vZ_sides, lk_vZ_first, lk_vZ_strides, lk_vZ_cells, lk_vZ_cell, lk_vZ_at, lk_vZ_put, lk_vZ_numbers, lk_vZ_nested, lk_vZ_twin, lk_vZ_copy_of, pt_p_kept, pu_p_kept, pt_p_holders, pu_p_holders, pt_r_many, pu_r_many, pt_r_width, pu_r_width, pt_r_pages, pu_r_pages, pt_r_copies, pu_r_copies, pt_r_shuts, pu_r_shuts, pt_v_held, pu_v_held, pt_v_lengths, pu_v_lengths, pt_v_begin, pu_v_begin, pt_v_steps, pu_v_steps, pr_many, pr_width, pr_pages, pr_copies, pr_shuts, rF_len, List.mem_cons, List.mem_singleton, List.not_mem_nil, Nat.reduceLT, lk_v1_tell, List.set_set, List.getElem?_set_self, get_mid, get_mid2, eq_self, *])
def sp_law_whole_585e : Spec := fun cs h k _ => ∃ i : Int, cs = [.int i] ∧ k (.v (.bl true)) h
/-- _law_whole: 0 _law_thing -/
def ir_law_whole_585e : CS := .ret (.an (.isi (.var 0) .int []) (.nt (.val (.isi (.var 0) .bool []))))
theorem w_law_whole_585e : ∀ cs h k E, sp_law_whole_585e cs h k E → cs.length = 1 → clH h → clVs h.length cs → wS ir_law_whole_585e (ret0 h k E) (st0 1 cs) h := by
  rintro _ h k E ⟨i, rfl, hk⟩ _ _ _
  unfold ir_law_whole_585e
  walk_at "gs"
  exact gc_same hk
end G

namespace G
open PySem PySem.Spec PyProof.Rows L2
local macro_rules | `(tactic| walk_at "gs") => `(tactic| try simp -implicitDefEqProofs only [↓h_oP, ↓h_vr, ↓h_vI, ↓h_cnd, ↓h_eqR, ↓h_inR, ↓h_ap, ↓h_wLoop, ↓h_wComp, ↓h_gcd, ↓h_fldC, ↓h_stC, ↓h_stFC, ↓h_agC, ↓h_mtC, ↓h_exC, ↓h_lenC, ↓h_eqOR, ↓h_eqIR, ↓h_eqMR, ↓h_bmC, ↓h_apC, ↓x_skip, ↓x_seq, ↓x_asg, ↓x_asgT, ↓x_asgS, ↓x_asgD, ↓x_setIx, ↓x_setFld, ↓x_aug, ↓x_augFld, ↓x_ret, ↓x_ex, ↓x_ifS, ↓x_for, ↓x_brk, ↓x_bad, ↓x_badE, ↓x_cont, ↓x_ret0, ↓x_con, ↓x_var, ↓x_thaw, ↓x_cool, ↓x_maxD, ↓x_bin, ↓x_neg, ↓x_nt, ↓x_cmp, ↓x_chn, ↓x_an, ↓x_orr, ↓x_ife, ↓x_tup, ↓x_lst, ↓x_ix, ↓x_sl, ↓x_sl3, ↓x_srev, ↓x_fld, ↓x_call, ↓x_callk, ↓x_newk, ↓x_lrng, ↓x_lnrg, ↓x_lenI, ↓x_cmpO, ↓x_cmpM, ↓x_cmpI, ↓x_lenL, ↓x_lenA, ↓x_lenT, ↓x_lenO, ↓x_lenR, ↓x_lenCi, ↓x_lenCl, ↓x_lenCf, ↓x_new, ↓x_mth, ↓x_blt, ↓x_bm, ↓x_isi, ↓x_lc, ↓x_lc2, ↓x_yes, ↓x_val, ↓x_ntB, ↓x_anB, ↓x_orB, ↓x_oN, ↓x_oS, ↓x_nil, ↓x_cons, ↓x_ival, ↓x_rng1, ↓x_rng2, ↓x_rng3, ↓x_enum, ↓x_enumz, ↓x_zip, ↓x_rev, ↓x_oPs, ↓x_vrs, ↓x_vIs, ↓x_inI, ↓x_inB, ↓x_inV, ↓x_toI, ↓x_toIb, ↓x_toB, ↓x_toBb, ↓x_cT, ↓x_cF, ↓x_cN, ↓x_thwA, ↓x_thwV, ↓x_adV, ↓x_adA, ↓x_asN, ↓x_asV, ↓x_asA, ↓x_fldO, ↓x_ixN, ↓x_mthO, ↓x_bII, ↓x_bTI, ↓x_bTT, ↓x_blAA, ↓x_blAL, ↓x_bmA, ↓x_blLA, ↓x_blLL, ↓x_bmL, ↓x_blRA, ↓x_blRL, ↓x_blRR, ↓x_blAR, ↓x_blLR, ↓x_binIp, ↓x_binIs, ↓x_binIm, ↓x_binId, ↓x_binIr, ↓x_binAp, ↓x_binAs, ↓x_binAm, ↓x_binAd, ↓x_binAr, ↓x_binIw, ↓x_lt, ↓x_le, ↓x_gt, ↓x_ge, ↓x_eq, ↓x_ne, ↓x_is, ↓x_isn, ↓x_in, ↓x_nin, ↓x_eqI, ↓x_eqT, ↓x_oInt, ↓x_iInt, ↓x_oBl, ↓x_iBl, ↓x_oNon, ↓x_iNon, ↓x_oTup, ↓x_iTup, ↓x_oLst, ↓x_iLst, ↓x_oAl, ↓x_iAl, ↓x_oStr, ↓x_iStr, ↓x_ixR, ↓x_slT, ↓x_slA, ↓x_slL, ↓x_slR, ↓x_sl3R, ↓x_partI, ↓x_partN, ↓x_hdC, ↓x_srT, ↓x_srA, ↓x_srL, ↓x_srR, ↓x_len, ↓x_abs, ↓x_min, ↓x_max, ↓x_min1, ↓x_max1, ↓x_sum, ↓x_all, ↓x_any, ↓x_int, ↓x_bool, ↓x_list, ↓x_tuple, ↓x_dm, ↓x_fldR0, ↓x_fldC, ↓x_stIx0, ↓x_stC, ↓x_stFld0, ↓x_stFC, ↓x_agFld0, ↓x_agC, ↓x_mth0, ↓x_mtC, ↓x_apd0, ↓x_bm_remove, ↓x_bm_pop, ↓x_bm_insert, ↓x_bm_reverse, ↓x_bm_clear, ↓x_bmCl, ↓x_cnt, ↓x_idxm, ↓x_bmK, ↓x_ext0, ↓x_exC, ↓x_apC, Bool.true_xor, Bool.false_xor, bfRm, bfP0, bfP1, bfIn, bfRv, bfCl, sqT, sqL, sqA, lsL, lsA, lmL, lmA, lmR, lmCl, cvT, cvF, arN, arP, arK, arD, lkHit, tpTv, tpT, tpL, tpA, tpR, trN, trB, trI, trT, trL, trA, itN, itB, itI, itS, itT, itL, itA, itO, sqR, lsR, lsCl, lsCf, trR, trCl, trCf, itR, itCl, itCf, itCi, gv0, gvS, sv0, svS, uv0, uvS, svsN, svsC, uvsN, uvsC, wGn, wGt, wGsN, wGsC, ctNn, ctNt, ctNsN, ctNsC, st0E, isNN, isBN, isIN, isSN, isTN, isLN, isON, isRN, isAN, isBB, at0, ix0, at1, ix1, at2, ix2, at3, ix3, at4, ix4, at5, ix5, at6, ix6, at7, ix7, atI_map, lkRV, sz0, sz1, sz2, sz3, sz4, sz5, sz6, sz7, sz8, sz9, sz10, sz11, sz12, sz13, sz14, sz15, sz16, ↓hid_val, enum_map, zip_map, rev_map, List.map_cons, List.map_nil, List.length_cons, List.length_nil, List.length_map, List.replicate_succ, List.replicate_zero, List.cons_append, List.nil_append, List.append_nil, Option.bind_some, Option.map_some, Option.isSome_some, Option.isSome_none, reduceCtorEq, Nat.reduceAdd, Nat.reduceSub, Nat.reduceMul, ite_true, ite_false, if_true, if_false, Bool.not_true, Bool.not_false, Bool.not_not, decide_true, decide_false, Bool.false_eq_true, and_true, true_and, len_concat, set_concat, List.set_cons_zero, List.set_cons_succ, List.getD_cons_zero, List.getD_cons_succ, List.take_succ_cons, List.take_zero, List.drop_succ_cons, List.drop_zero, List.getElem?_cons_zero, List.getElem?_cons_succ, ints_map, ints_map', bls_map, or_self, false_or, or_false, true_or, or_true, Nat.zero_add, List.isEmpty_cons, List.isEmpty_nil, lk_rF_many, lk_rF_width, lk_rF_pages, lk_rF_copies, lk_rF_shuts, lk_rF_read, lk_rF_write, lk_rF_need, lk_rF_numbers, lk_rF_own_page, lk_rF_twin, lk_rF_copied, lk_rF_is_shut, lk_rF_shared, lk_pF_kept, lk_pF_holders, lk_vF_held, lk_vF_lengths, lk_vF_begin, lk_vF_steps, lk_vF_tell, lk_vF_room, lk_vF_sides, lk_vF_first, lk_vF_strides, lk_vF_cells, lk_vF_cell, lk_vF_at, lk_vF_put, lk_vF_numbers, lk_vF_nested, lk_vF_twin, lk_vF_copy_of, lk_pZ_kept, lk_pZ_holders, lk_vZ_held, lk_vZ_lengths, lk_vZ_begin, lk_vZ_steps, lk_vZ_tell, lk_vZ_room, lk_vZ_sides, lk_vZ_first, lk_vZ_strides, lk_vZ_cells, lk_vZ_cell, lk_vZ_at, lk_vZ_put, lk_vZ_numbers, lk_vZ_nested, lk_vZ_twin, lk_vZ_copy_of, pt_p_kept, pu_p_kept, pt_p_holders, pu_p_holders, pt_r_many, pu_r_many, pt_r_width, pu_r_width, pt_r_pages, pu_r_pages, pt_r_copies, pu_r_copies, pt_r_shuts, pu_r_shuts, pt_v_held, pu_v_held, pt_v_lengths, pu_v_lengths, pt_v_begin, pu_v_begin, pt_v_steps, pu_v_steps, pr_many, pr_width, pr_pages, pr_copies, pr_shuts, rF_len, List.mem_cons, List.mem_singleton, List.not_mem_nil, Nat.reduceLT, lk_v1_tell, List.set_set, List.getElem?_set_self, get_mid, get_mid2, eq_self])
local macro_rules | `(tactic| walk_at "gc") => `(tactic| first | refine cnd_t (decide_eq_true (by omega)) ?_ | refine cnd_f (decide_eq_false (by omega)) ?_)
local macro_rules | `(tactic| walk_at "gw") => `(tactic| (walk_at "gs"; repeat (walk_at "gc"; walk_at "gs")))
local macro_rules | `(tactic| walk_at "gv") => `(tactic| (walk_at "gs"; repeat ((first | refine ap_room ?_ | refine ap_sides ?_ | refine ap_first ?_ | refine ap_strides ?_); walk_at "gs")))
local macro_rules | `(tactic| walk_at "gu") => `(tactic| (walk_at "gv"; repeat (walk_at "gc"; walk_at "gv")))
local macro_rules | `(tactic| walk_at "gh") => `(tactic| try simp -implicitDefEqProofs only [↓h_oP, ↓h_vr, ↓h_vI, ↓h_cnd, ↓h_eqR, ↓h_inR, ↓h_ap, ↓h_wLoop, ↓h_wComp, ↓h_gcd, ↓h_fldC, ↓h_stC, ↓h_stFC, ↓h_agC, ↓h_mtC, ↓h_exC, ↓h_lenC, ↓h_eqOR, ↓h_eqIR, ↓h_eqMR, ↓h_bmC, ↓h_apC, ↓x_skip, ↓x_seq, ↓x_asg, ↓x_asgT, ↓x_asgS, ↓x_asgD, ↓x_setIx, ↓x_setFld, ↓x_aug, ↓x_augFld, ↓x_ret, ↓x_ex, ↓x_ifS, ↓x_for, ↓x_brk, ↓x_bad, ↓x_badE, ↓x_cont, ↓x_ret0, ↓x_con, ↓x_var, ↓x_thaw, ↓x_cool, ↓x_maxD, ↓x_bin, ↓x_neg, ↓x_nt, ↓x_cmp, ↓x_chn, ↓x_an, ↓x_orr, ↓x_ife, ↓x_tup, ↓x_lst, ↓x_ix, ↓x_sl, ↓x_sl3, ↓x_srev, ↓x_fld, ↓x_call, ↓x_callk, ↓x_newk, ↓x_lrng, ↓x_lnrg, ↓x_lenI, ↓x_cmpO, ↓x_cmpM, ↓x_cmpI, ↓x_lenL, ↓x_lenA, ↓x_lenT, ↓x_lenO, ↓x_lenR, ↓x_lenCi, ↓x_lenCl, ↓x_lenCf, ↓x_new, ↓x_mth, ↓x_blt, ↓x_bm, ↓x_isi, ↓x_lc, ↓x_lc2, ↓x_yes, ↓x_val, ↓x_ntB, ↓x_anB, ↓x_orB, ↓x_oN, ↓x_oS, ↓x_nil, ↓x_cons, ↓x_ival, ↓x_rng1, ↓x_rng2, ↓x_rng3, ↓x_enum, ↓x_enumz, ↓x_zip, ↓x_rev, ↓x_oPs, ↓x_vrs, ↓x_vIs, ↓x_inI, ↓x_inB, ↓x_inV, ↓x_toI, ↓x_toIb, ↓x_toB, ↓x_toBb, ↓x_cT, ↓x_cF, ↓x_cN, ↓x_thwA, ↓x_thwV, ↓x_adV, ↓x_adA, ↓x_asN, ↓x_asV, ↓x_asA, ↓x_fldO, ↓x_ixN, ↓x_mthO, ↓x_bII, ↓x_bTI, ↓x_bTT, ↓x_blAA, ↓x_blAL, ↓x_bmA, ↓x_blLA, ↓x_blLL, ↓x_bmL, ↓x_blRA, ↓x_blRL, ↓x_blRR, ↓x_blAR, ↓x_blLR, ↓x_binIp, ↓x_binIs, ↓x_binIm, ↓x_binId, ↓x_binIr, ↓x_binAp, ↓x_binAs, ↓x_binAm, ↓x_binAd, ↓x_binAr, ↓x_binIw, ↓x_lt, ↓x_le, ↓x_gt, ↓x_ge, ↓x_eq, ↓x_ne, ↓x_is, ↓x_isn, ↓x_in, ↓x_nin, ↓x_eqI, ↓x_eqT, ↓x_oInt, ↓x_iInt, ↓x_oBl, ↓x_iBl, ↓x_oNon, ↓x_iNon, ↓x_oTup, ↓x_iTup, ↓x_oLst, ↓x_iLst, ↓x_oAl, ↓x_iAl, ↓x_oStr, ↓x_iStr, ↓x_ixR, ↓x_slT, ↓x_slA, ↓x_slL, ↓x_slR, ↓x_sl3R, ↓x_partI, ↓x_partN, ↓x_hdC, ↓x_srT, ↓x_srA, ↓x_srL, ↓x_srR, ↓x_len, ↓x_abs, ↓x_min, ↓x_max, ↓x_min1, ↓x_max1, ↓x_sum, ↓x_all, ↓x_any, ↓x_int, ↓x_bool, ↓x_list, ↓x_tuple, ↓x_dm, ↓x_fldR0, ↓x_fldC, ↓x_stIx0, ↓x_stC, ↓x_stFld0, ↓x_stFC, ↓x_agFld0, ↓x_agC, ↓x_mth0, ↓x_mtC, ↓x_apd0, ↓x_bm_remove, ↓x_bm_pop, ↓x_bm_insert, ↓x_bm_reverse, ↓x_bm_clear, ↓x_bmCl, ↓x_cnt, ↓x_idxm, ↓x_bmK, ↓x_ext0, ↓x_exC, ↓x_apC, Bool.true_xor, Bool.false_xor, bfRm, bfP0, bfP1, bfIn, bfRv, bfCl, sqT, sqL, sqA, lsL, lsA, lmL, lmA, lmR, lmCl, cvT, cvF, arN, arP, arK, arD, lkHit, tpTv, tpT, tpL, tpA, tpR, trN, trB, trI, trT, trL, trA, itN, itB, itI, itS, itT, itL, itA, itO, sqR, lsR, lsCl, lsCf, trR, trCl, trCf, itR, itCl, itCf, itCi, gv0, gvS, sv0, svS, uv0, uvS, svsN, svsC, uvsN, uvsC, wGn, wGt, wGsN, wGsC, ctNn, ctNt, ctNsN, ctNsC, st0E, isNN, isBN, isIN, isSN, isTN, isLN, isON, isRN, isAN, isBB, at0, ix0, at1, ix1, at2, ix2, at3, ix3, at4, ix4, at5, ix5, at6, ix6, at7, ix7, atI_map, lkRV, sz0, sz1, sz2, sz3, sz4, sz5, sz6, sz7, sz8, sz9, sz10, sz11, sz12, sz13, sz14, sz15, sz16, ↓hid_val, enum_map, zip_map, rev_map, List.map_cons, List.map_nil, List.length_cons, List.length_nil, List.length_map, List.replicate_succ, List.replicate_zero, List.cons_append, List.nil_append, List.append_nil, Option.bind_some, Option.map_some, Option.isSome_some, Option.isSome_none, reduceCtorEq, Nat.reduceAdd, Nat.reduceSub, Nat.reduceMul, ite_true, ite_false, if_true, if_false, Bool.not_true, Bool.not_false, Bool.not_not, decide_true, decide_false, Bool.false_eq_true, and_true, true_and, len_concat, set_concat, List.set_cons_zero, List.set_cons_succ, List.getD_cons_zero, List.getD_cons_succ, List.take_succ_cons, List.take_zero, List.drop_succ_cons, List.drop_zero, List.getElem?_cons_zero, List.getElem?_cons_succ, ints_map, ints_map', bls_map, or_self, false_or, or_false, true_or, or_true, Nat.zero_add, List.isEmpty_cons, List.isEmpty_nil, lk_rF_many, lk_rF_width, lk_rF_pages, lk_rF_copies, lk_rF_shuts, lk_rF_read, lk_rF_write, lk_rF_need, lk_rF_numbers, lk_rF_own_page, lk_rF_twin, lk_rF_copied, lk_rF_is_shut, lk_rF_shared, lk_pF_kept, lk_pF_holders, lk_vF_held, lk_vF_lengths, lk_vF_begin, lk_vF_steps, lk_vF_tell, lk_vF_room, lk_vF_sides, lk_vF_first, lk_vF_strides, lk_vF_cells, lk_vF_cell, lk_vF_at, lk_vF_put, lk_vF_numbers, lk_vF_nested, lk_vF_twin, lk_vF_copy_of, lk_pZ_kept, lk_pZ_holders, lk_vZ_held, lk_vZ_lengths, lk_vZ_begin, lk_vZ_steps, lk_vZ_tell, lk_vZ_room, lk_vZ_sides, lk_vZ_first, lk_vZ_strides, lk_vZ_cells, lk_vZ_cell, lk_vZ_at, lk_vZ_put, lk_vZ_numbers, lk_vZ_nested, lk_vZ_twin, lk_vZ_copy_of, pt_p_kept, pu_p_kept, pt_p_holders, pu_p_holders, pt_r_many, pu_r_many, pt_r_width, pu_r_width, pt_r_pages, pu_r_pages, pt_r_copies, pu_r_copies, pt_r_shuts, pu_r_shuts, pt_v_held, pu_v_held, pt_v_lengths, pu_v_lengths, pt_v_begin, pu_v_begin, pt_v_steps, pu_v_steps, pr_many, pr_width, pr_pages, pr_copies, pr_shuts, rF_len, List.mem_cons, List.mem_singleton, List.not_mem_nil, Nat.reduceLT, lk_v1_tell, List.set_set, List.getElem?_set_self, get_mid, get_mid2, eq_self, *])
theorem ps_len {c : Cn} {h : CH} {W : GW} {o : Own} {i : Nat} {R : RG} (r : RmAt c h W o i R) : R.ps.length = (R.m + (R.w - 1)) / R.w ∧ R.ps.length ≤ R.m := by
  have e : R.ps.length = (R.m + (R.w - 1)) / R.w := by
    have := congrArg List.length r.ch
    rw [List.length_map, chunk_len, r.ml] at this
    exact this
  refine ⟨e, ?_⟩
  rw [e]
  refine Nat.le_of_lt_succ (Nat.div_lt_of_lt_mul ?_)
  have := Nat.le_mul_of_pos_left R.m r.w0
  have := r.w0
  rw [Nat.mul_succ]
  omega
def sp_Room_shared (c : Cn) : Spec := fun cs h k _ => ∃ (W : GW) (o : Own) (i j : Nat) (R S : RG), cs = [.ref R.r, .ref S.r] ∧ Wd c h W o ∧ W.rs[i]? = some R ∧ W.rs[j]? = some S ∧ k (.al ((shrd R.ps S.ps 0).map .int)) h
/-- Room.shared: 0 self, 1 other, 2 at, 3 one, 4 two -/
def ir_Room_shared (c : Cn) : CS := .ret (.lc [2, 3, 4] (.tup (.cons (.name 2) (.cons (.tup (.cons (.name 3) (.cons (.name 4) (.nil)))) (.nil)))) (.enumz (.fld (.var 0) "pages" [c.Room]) (.fld (.var 1) "pages" [c.Room])) (.val (.cmpO [c.Page] false (.var 3) (.var 4))) (.var 2))
theorem w_Room_shared (c : Cn) : ∀ cs h k E, sp_Room_shared c cs h k E → cs.length = 2 → clH h → clVs h.length cs → wS (ir_Room_shared c) (ret0 h k E) (st0 5 cs) h := by
  rintro _ h k E ⟨W, o, i, j, R, S, rfl, w, hi, hj, hk⟩ _ hc _
  unfold ir_Room_shared
  have hR := (w.rm i R hi).at_
  have hS := (w.rm j S hj).at_
  have pR := (w.rm i R hi).pl
  have pS := (w.rm j S hj).pl
  walk_at "gs"
  rw [hR]
  walk_at "gs"
  rw [hS]
  walk_at "gs"
  rw [pR]
  walk_at "gs"
  rw [pS]
  walk_at "gs"
  have lR := (ps_len (w.rm i R hi)).2
  have mR := (w.rm i R hi).m1
  have sz : sizeLine = 2 ^ 24 := rfl
  refine ⟨by rw [List.length_zipIdx, List.length_zip]; omega, comp_filter (f := fun p : (Nat × Nat) × Nat => CV.tup [CV.int p.2, CV.tup [CV.ref p.1.1, CV.ref p.1.2]]) (ns := (R.ps.zip S.ps).zipIdx) (g := fun x => if x.1.1 = x.1.2 then some (.int ((x.2 : Nat) : Int)) else none) (by trivial) ?_ ?_⟩
  · rintro d ⟨⟨p, q⟩, x⟩ r2 acc N e rfl hN
    have hm : (p, q) ∈ R.ps.zip S.ps := by
      have : (((p, q), x) : (Nat × Nat) × Nat) ∈ (R.ps.zip S.ps).zipIdx := by rw [e]; simp
      have := List.mem_zipIdx this
      have e2 := this.2.2
      rw [e2]; exact List.getElem_mem _
    have hp := (w.pg i R p hi (List.of_mem_zip hm).1).at_
    have hq := (w.pg j S q hj (List.of_mem_zip hm).2).at_
    walk_at "gs"
    refine eqO_ins hp hq (by simp) ?_
    walk_at "gs"
    refine cnd_dec (fun z => ?_) (fun z => ?_)
    · walk_at "gs"
      rw [if_pos z] at hN
      exact hN
    · rw [if_neg z] at hN
      simpa using hN
  · walk_at "gs"
    refine gc_same ?_
    unfold shrd at hk
    rw [List.map_filterMap] at hk
    have ee : (fun x : (Nat × Nat) × Nat => Option.map CV.int (if x.1.1 = x.1.2 then some ((x.2 : Nat) : Int) else none)) = fun x => if x.1.1 = x.1.2 then some (CV.int ((x.2 : Nat) : Int)) else none := by
      funext x; split <;> rfl
    rw [ee] at hk
    exact hk
structure B9 (c : Cn) (h : CH) (l a0 a1 a2 a3 a4 : Nat) (sc : List CV) (a b : Int) (W : GW) (o : Own) (ds ps : List Nat) (f : Nat → Int) (g : Nat → Nat) (cnt : Int) : Prop where
  S : St c h W o ((l, .lst [.int a, .int b]) :: (0, .fro sc) :: (a0, .lst W.refs) :: (a1, .lst (ds.map .ref)) :: (a2, .lst (ps.map .ref)) :: (a3, .lst (W.rs.map fun R => CV.int R.w)) :: (a4, .lst [.int cnt]) :: (lstC ps (W.nmT f) ++ lstC ds W.tab))
  bok : BagOk a b
  dl : ds.length = W.rs.length
  pl : ps.length = W.rs.length
  N : Nm W f g cnt
  few : W.rs.length ≤ 7
  ok : ∀ R ∈ W.rs, R.sh = 0 ∧ R.m ≤ 40
theorem B9.nm {c : Cn} {h : CH} {l a0 a1 a2 a3 a4 : Nat} {sc : List CV} {a b : Int} {W : GW} {o : Own} {ds ps : List Nat} {f : Nat → Int} {g : Nat → Nat} {cnt : Int} (B : B9 c h l a0 a1 a2 a3 a4 sc a b W o ds ps f g cnt) {i x : Nat} {R : RG} (hx : ps[i]? = some x) (hR : W.rs[i]? = some R) : h[x]? = some (.lst ((R.ps.map f).map .int)) :=
  B.S.get (by
    have := lstC_at hx (nmT_at (f := f) hR)
    simp only [List.mem_cons, List.mem_append]
    exact .inr (.inr (.inr (.inr (.inr (.inr (.inr (.inl this))))))))
theorem B9.nu {c : Cn} {h : CH} {l a0 a1 a2 a3 a4 : Nat} {sc : List CV} {a b : Int} {W : GW} {o : Own} {ds ps : List Nat} {f : Nat → Int} {g : Nat → Nat} {cnt : Int} (B : B9 c h l a0 a1 a2 a3 a4 sc a b W o ds ps f g cnt) {i x : Nat} {R : RG} (hx : ds[i]? = some x) (hR : W.rs[i]? = some R) : h[x]? = some (.lst ((W.nums R).map .int)) :=
  B.S.get (by
    have := lstC_at hx (tab_get hR)
    simp only [List.mem_cons, List.mem_append]
    exact .inr (.inr (.inr (.inr (.inr (.inr (.inr (.inr this))))))))
theorem dueD_map {a b : List Int} {n : Nat} : ((a.zipIdx n).filterMap fun x => if x.1 ∈ b then some (CV.int ((x.2 : Nat) : Int)) else none) = (dueD a b n).map .int := by
  unfold dueD
  rw [List.map_filterMap]
  congr 1
  funext x; split <;> rfl
def hsV (a0 a1 a2 a3 a4 : Nat) : CV := .lst [.ref a0, .ref a1, .ref a2, .ref a3, .ref a4]
def sp_law_shared_good (c : Cn) : Spec := fun cs h k _ => ∃ (l a0 a1 a2 a3 a4 : Nat) (sc : List CV) (a b : Int) (W : GW) (o : Own) (ds ps : List Nat) (f : Nat → Int) (g : Nat → Nat) (cnt : Int), cs = [hsV a0 a1 a2 a3 a4] ∧ B9 c h l a0 a1 a2 a3 a4 sc a b W o ds ps f g cnt ∧
  ∀ h', B9 c h' l a0 a1 a2 a3 a4 sc a b W o ds ps f g cnt → k (.v (.bl true)) h'
/-- _law_shared_good: 0 _law_house, 1 _law_one, 2 _law_ones, 3 _law_other, 4 _law_others, 5 _law_due, 6 _law_found, 7 _law_at, 8 _law_name -/
def ir_law_shared_good (c : Cn) : CS := .seq (.forr (.tup (.cons (.name 1) (.cons (.name 2) (.nil)))) (.zip (.ix (.var 0) (.con (.int 0))) (.ix (.var 0) (.con (.int 2)))) (.forr (.tup (.cons (.name 3) (.cons (.name 4) (.nil)))) (.zip (.ix (.var 0) (.con (.int 0))) (.ix (.var 0) (.con (.int 2)))) (.seq (.asg 5 (.lc [7, 8] (.tup (.cons (.name 7) (.cons (.name 8) (.nil)))) (.enum (.var 2)) (.val (.cmp .In (.var 8) (.var 4))) (.var 7))) (.seq (.asg 6 (.thaw (.mth [(c.Room, (sp_Room_shared c), 2, [])] "shared" (.var 1) (.cons (.var 3) (.nil))))) (.seq (.ife (.orr (.nt (.val (.isi (.var 6) .list []))) (.orr (.val (.cmp .NotEq (.var 6) (.var 5))) (.nt (.val (.blt .all (.cons (.lc [7] (.name 7) (.val (.var 6)) (.yes) (.call sp_law_whole_585e 1 [] (.cons (.var 7) (.nil)))) (.nil))))))) (.ret (.con (.bl false))) (.skip)) (.seq (.ex (.bm .append (.var 6) (.cons (.con (.int 0)) (.nil)))) (.ife (.val (.cmp .NotEq (.mth [(c.Room, (sp_Room_shared c), 2, [])] "shared" (.var 1) (.cons (.var 3) (.nil))) (.var 5))) (.ret (.con (.bl false))) (.skip)))))))) (.ret (.con (.bl true)))
theorem w_law_shared_good (c : Cn) : ∀ cs h k E, sp_law_shared_good c cs h k E → cs.length = 1 → clH h → clVs h.length cs → wS (ir_law_shared_good c) (ret0 h k E) (st0 9 cs) h := by
  rintro _ h k E ⟨l, a0, a1, a2, a3, a4, sc, a, b, W, o, ds, ps, f, g, cnt, rfl, B, hk⟩ _ hc _
  unfold ir_law_shared_good hsV
  have e0 := B.S.get (a := a0) (x := .lst W.refs) (by simp)
  have e2 := B.S.get (a := a2) (x := .lst (ps.map .ref)) (by simp)
  have pl := B.pl
  have few := B.few
  walk_at "gs"
  rw [e0]
  walk_at "gs"
  rw [e2]
  unfold GW.refs at e0 ⊢
  walk_at "gs"
  have sz : sizeLine = 2 ^ 24 := rfl
  refine loop_map (f := fun x : RG × Nat => CV.tup [.ref x.1.r, .ref x.2]) (ns := W.rs.zip ps) (fun d σ h' => B9 c h' l a0 a1 a2 a3 a4 sc a b W o ds ps f g cnt ∧ ∃ v1 v2 v3 v4 v5 v6 v7 v8, σ = [some (CV.lst [.ref a0, .ref a1, .ref a2, .ref a3, .ref a4]), v1, v2, v3, v4, v5, v6, v7, v8]) ⟨B, _, _, _, _, _, _, _, _, rfl⟩ ?_ ?_ ?_
  · rintro d r σ h' _ ⟨B', _⟩
    have f0 := B'.S.get (a := a0) (x := .lst W.refs) (by simp)
    have f2 := B'.S.get (a := a2) (x := .lst (ps.map .ref)) (by simp)
    unfold GW.refs at f0
    show h'[a0]? = h[a0]? ∧ h'[a2]? = h[a2]?
    rw [e0, e2, f0, f2]; exact ⟨rfl, rfl⟩
  · rintro d ⟨R, x⟩ r _ h1 e ⟨B1, v1, v2, v3, v4, v5, v6, v7, v8, rfl⟩
    have hz : (W.rs.zip ps)[d.length]? = some (R, x) := by rw [e]; simp
    rw [List.getElem?_zip_eq_some] at hz
    obtain ⟨hR, hx⟩ := hz
    have f0 := B1.S.get (a := a0) (x := .lst W.refs) (by simp)
    have f2 := B1.S.get (a := a2) (x := .lst (ps.map .ref)) (by simp)
    unfold GW.refs at f0
    walk_at "gs"
    rw [f0]
    walk_at "gs"
    rw [f2]
    walk_at "gs"
    refine loop_map (f := fun x : RG × Nat => CV.tup [.ref x.1.r, .ref x.2]) (ns := W.rs.zip ps) (fun d σ h' => B9 c h' l a0 a1 a2 a3 a4 sc a b W o ds ps f g cnt ∧ ∃ v3 v4 v5 v6 v7 v8, σ = [some (CV.lst [.ref a0, .ref a1, .ref a2, .ref a3, .ref a4]), some (.ref R.r), some (.ref x), v3, v4, v5, v6, v7, v8]) ⟨B1, _, _, _, _, _, _, rfl⟩ ?_ ?_ ?_
    · rintro d r σ h' _ ⟨B', _⟩
      have f0' := B'.S.get (a := a0) (x := .lst W.refs) (by simp)
      have f2' := B'.S.get (a := a2) (x := .lst (ps.map .ref)) (by simp)
      unfold GW.refs at f0'
      show h'[a0]? = h1[a0]? ∧ h'[a2]? = h1[a2]?
      rw [f0, f2, f0', f2']; exact ⟨rfl, rfl⟩
    · rintro d2 ⟨T, y⟩ r2 _ h2 e2' ⟨B2, v3, v4, v5, v6, v7, v8, rfl⟩
      have hz2 : (W.rs.zip ps)[d2.length]? = some (T, y) := by rw [e2']; simp
      rw [List.getElem?_zip_eq_some] at hz2
      obtain ⟨hT, hy⟩ := hz2
      have gx := B2.nm hx hR
      have gy := B2.nm hy hT
      have iR := B2.S.ins hR
      have lR := (ps_len (B2.S.w.rm _ R hR)).2
      have okR := B2.ok R (List.mem_of_getElem? hR)
      have E := shr_eq B2.N (List.mem_of_getElem? hR) (List.mem_of_getElem? hT)
      walk_at "gs"
      rw [gx]
      walk_at "gs"
      refine ⟨by rw [List.length_zipIdx, List.length_map]; omega, comp_filter (f := fun p : Int × Nat => CV.tup [CV.int p.2, CV.int p.1]) (ns := (R.ps.map f).zipIdx) (g := fun x => if x.1 ∈ T.ps.map f then some (.int ((x.2 : Nat) : Int)) else none) (gd_self _ _) ?_ ?_⟩
      · rintro d3 ⟨p, q⟩ r3 acc N e3 rfl hN
        walk_at "gs"
        refine in_ints (ns := T.ps.map f) (ls_ref gy) ?_
        refine cnd_dec (fun z => ?_) (fun z => ?_)
        · walk_at "gs"
          rw [if_pos z] at hN
          exact hN
        · rw [if_neg z] at hN
          simpa using hN
      rw [List.nil_append, dueD_map, E]
      obtain ⟨due, hdue⟩ : ∃ d, d = shrd R.ps T.ps 0 := ⟨_, rfl⟩
      have ldue : due.length ≤ 2 ^ 20 := by
        rw [hdue]; unfold shrd
        refine Nat.le_trans (List.length_filterMap_le _ _) ?_
        rw [List.length_zipIdx, List.length_zip]; omega
      rw [← hdue]
      walk_at "gs"
      rw [iR]
      walk_at "gs"
      refine ⟨W, o, _, _, R, T, rfl, B2.S.w, hR, hT, ?_⟩
      rw [← hdue]
      walk_at "gs"
      refine eqL_int (a := due) (b := due) (ls_ref len_concat) rfl ?_
      rw [decide_eq_true rfl]
      walk_at "gs"
      refine ⟨by first | omega | (simp; omega), comp_pure (f := CV.int) (ns := due) (g := fun _ => .bl true) (gd_self _ _) ?_ ?_⟩
      · rintro d3 p r3 acc N e3 rfl hN
        walk_at "gs"
        refine ⟨p, rfl, ?_⟩
        walk_at "gs"
        exact hN
      walk_at "gs"
      rw [show (due.map (fun _ => true)).all id = true by simp]
      walk_at "gs"
      refine ⟨by omega, ?_⟩
      have iR' := get_app (g := [CO.lst (due.map CV.int ++ [.int 0])]) iR
      have B3 : B9 c (h2 ++ [CO.lst (due.map CV.int ++ [.int 0])]) l a0 a1 a2 a3 a4 sc a b W o ds ps f g cnt := { B2 with S := B2.S.app _ }
      rw [iR']
      generalize h2 ++ [CO.lst (due.map CV.int ++ [.int 0])] = h3 at B3 iR' ⊢
      walk_at "gs"
      refine ⟨W, o, _, _, R, T, rfl, B3.S.w, hR, hT, ?_⟩
      rw [← hdue]
      walk_at "gs"
      refine eqL_int (a := due) (b := due) rfl rfl ?_
      rw [decide_eq_true rfl]
      walk_at "gs"
      exact ⟨B3, _, _, _, _, _, _, rfl⟩
    · rintro _ h2 ⟨B2, v3, v4, v5, v6, v7, v8, rfl⟩
      walk_at "gs"
      exact ⟨B2, _, _, _, _, _, _, _, _, rfl⟩
  · rintro _ h1 ⟨B1, v1, v2, v3, v4, v5, v6, v7, v8, rfl⟩
    walk_at "gs"
    exact gc_same (hk h1 B1)
end G

namespace G
open PySem PySem.Spec PyProof.Rows L2
local macro_rules | `(tactic| walk_at "gs") => `(tactic| try simp -implicitDefEqProofs only [↓h_oP, ↓h_vr, ↓h_vI, ↓h_cnd, ↓h_eqR, ↓h_inR, ↓h_ap, ↓h_wLoop, ↓h_wComp, ↓h_gcd, ↓h_fldC, ↓h_stC, ↓h_stFC, ↓h_agC, ↓h_mtC, ↓h_exC, ↓h_lenC, ↓h_eqOR, ↓h_eqIR, ↓h_eqMR, ↓h_bmC, ↓h_apC, ↓x_skip, ↓x_seq, ↓x_asg, ↓x_asgT, ↓x_asgS, ↓x_asgD, ↓x_setIx, ↓x_setFld, ↓x_aug, ↓x_augFld, ↓x_ret, ↓x_ex, ↓x_ifS, ↓x_for, ↓x_brk, ↓x_bad, ↓x_badE, ↓x_cont, ↓x_ret0, ↓x_con, ↓x_var, ↓x_thaw, ↓x_cool, ↓x_maxD, ↓x_bin, ↓x_neg, ↓x_nt, ↓x_cmp, ↓x_chn, ↓x_an, ↓x_orr, ↓x_ife, ↓x_tup, ↓x_lst, ↓x_ix, ↓x_sl, ↓x_sl3, ↓x_srev, ↓x_fld, ↓x_call, ↓x_callk, ↓x_newk, ↓x_lrng, ↓x_lnrg, ↓x_lenI, ↓x_cmpO, ↓x_cmpM, ↓x_cmpI, ↓x_lenL, ↓x_lenA, ↓x_lenT, ↓x_lenO, ↓x_lenR, ↓x_lenCi, ↓x_lenCl, ↓x_lenCf, ↓x_new, ↓x_mth, ↓x_blt, ↓x_bm, ↓x_isi, ↓x_lc, ↓x_lc2, ↓x_yes, ↓x_val, ↓x_ntB, ↓x_anB, ↓x_orB, ↓x_oN, ↓x_oS, ↓x_nil, ↓x_cons, ↓x_ival, ↓x_rng1, ↓x_rng2, ↓x_rng3, ↓x_enum, ↓x_enumz, ↓x_zip, ↓x_rev, ↓x_oPs, ↓x_vrs, ↓x_vIs, ↓x_inI, ↓x_inB, ↓x_inV, ↓x_toI, ↓x_toIb, ↓x_toB, ↓x_toBb, ↓x_cT, ↓x_cF, ↓x_cN, ↓x_thwA, ↓x_thwV, ↓x_adV, ↓x_adA, ↓x_asN, ↓x_asV, ↓x_asA, ↓x_fldO, ↓x_ixN, ↓x_mthO, ↓x_bII, ↓x_bTI, ↓x_bTT, ↓x_blAA, ↓x_blAL, ↓x_bmA, ↓x_blLA, ↓x_blLL, ↓x_bmL, ↓x_blRA, ↓x_blRL, ↓x_blRR, ↓x_blAR, ↓x_blLR, ↓x_binIp, ↓x_binIs, ↓x_binIm, ↓x_binId, ↓x_binIr, ↓x_binAp, ↓x_binAs, ↓x_binAm, ↓x_binAd, ↓x_binAr, ↓x_binIw, ↓x_lt, ↓x_le, ↓x_gt, ↓x_ge, ↓x_eq, ↓x_ne, ↓x_is, ↓x_isn, ↓x_in, ↓x_nin, ↓x_eqI, ↓x_eqT, ↓x_oInt, ↓x_iInt, ↓x_oBl, ↓x_iBl, ↓x_oNon, ↓x_iNon, ↓x_oTup, ↓x_iTup, ↓x_oLst, ↓x_iLst, ↓x_oAl, ↓x_iAl, ↓x_oStr, ↓x_iStr, ↓x_ixR, ↓x_slT, ↓x_slA, ↓x_slL, ↓x_slR, ↓x_sl3R, ↓x_partI, ↓x_partN, ↓x_hdC, ↓x_srT, ↓x_srA, ↓x_srL, ↓x_srR, ↓x_len, ↓x_abs, ↓x_min, ↓x_max, ↓x_min1, ↓x_max1, ↓x_sum, ↓x_all, ↓x_any, ↓x_int, ↓x_bool, ↓x_list, ↓x_tuple, ↓x_dm, ↓x_fldR0, ↓x_fldC, ↓x_stIx0, ↓x_stC, ↓x_stFld0, ↓x_stFC, ↓x_agFld0, ↓x_agC, ↓x_mth0, ↓x_mtC, ↓x_apd0, ↓x_bm_remove, ↓x_bm_pop, ↓x_bm_insert, ↓x_bm_reverse, ↓x_bm_clear, ↓x_bmCl, ↓x_cnt, ↓x_idxm, ↓x_bmK, ↓x_ext0, ↓x_exC, ↓x_apC, Bool.true_xor, Bool.false_xor, bfRm, bfP0, bfP1, bfIn, bfRv, bfCl, sqT, sqL, sqA, lsL, lsA, lmL, lmA, lmR, lmCl, cvT, cvF, arN, arP, arK, arD, lkHit, tpTv, tpT, tpL, tpA, tpR, trN, trB, trI, trT, trL, trA, itN, itB, itI, itS, itT, itL, itA, itO, sqR, lsR, lsCl, lsCf, trR, trCl, trCf, itR, itCl, itCf, itCi, gv0, gvS, sv0, svS, uv0, uvS, svsN, svsC, uvsN, uvsC, wGn, wGt, wGsN, wGsC, ctNn, ctNt, ctNsN, ctNsC, st0E, isNN, isBN, isIN, isSN, isTN, isLN, isON, isRN, isAN, isBB, at0, ix0, at1, ix1, at2, ix2, at3, ix3, at4, ix4, at5, ix5, at6, ix6, at7, ix7, atI_map, lkRV, sz0, sz1, sz2, sz3, sz4, sz5, sz6, sz7, sz8, sz9, sz10, sz11, sz12, sz13, sz14, sz15, sz16, ↓hid_val, enum_map, zip_map, rev_map, List.map_cons, List.map_nil, List.length_cons, List.length_nil, List.length_map, List.replicate_succ, List.replicate_zero, List.cons_append, List.nil_append, List.append_nil, Option.bind_some, Option.map_some, Option.isSome_some, Option.isSome_none, reduceCtorEq, Nat.reduceAdd, Nat.reduceSub, Nat.reduceMul, ite_true, ite_false, if_true, if_false, Bool.not_true, Bool.not_false, Bool.not_not, decide_true, decide_false, Bool.false_eq_true, and_true, true_and, len_concat, set_concat, List.set_cons_zero, List.set_cons_succ, List.getD_cons_zero, List.getD_cons_succ, List.take_succ_cons, List.take_zero, List.drop_succ_cons, List.drop_zero, List.getElem?_cons_zero, List.getElem?_cons_succ, ints_map, ints_map', bls_map, or_self, false_or, or_false, true_or, or_true, Nat.zero_add, List.isEmpty_cons, List.isEmpty_nil, lk_rF_many, lk_rF_width, lk_rF_pages, lk_rF_copies, lk_rF_shuts, lk_rF_read, lk_rF_write, lk_rF_need, lk_rF_numbers, lk_rF_own_page, lk_rF_twin, lk_rF_copied, lk_rF_is_shut, lk_rF_shared, lk_pF_kept, lk_pF_holders, lk_vF_held, lk_vF_lengths, lk_vF_begin, lk_vF_steps, lk_vF_tell, lk_vF_room, lk_vF_sides, lk_vF_first, lk_vF_strides, lk_vF_cells, lk_vF_cell, lk_vF_at, lk_vF_put, lk_vF_numbers, lk_vF_nested, lk_vF_twin, lk_vF_copy_of, lk_pZ_kept, lk_pZ_holders, lk_vZ_held, lk_vZ_lengths, lk_vZ_begin, lk_vZ_steps, lk_vZ_tell, lk_vZ_room, lk_vZ_sides, lk_vZ_first, lk_vZ_strides, lk_vZ_cells, lk_vZ_cell, lk_vZ_at, lk_vZ_put, lk_vZ_numbers, lk_vZ_nested, lk_vZ_twin, lk_vZ_copy_of, pt_p_kept, pu_p_kept, pt_p_holders, pu_p_holders, pt_r_many, pu_r_many, pt_r_width, pu_r_width, pt_r_pages, pu_r_pages, pt_r_copies, pu_r_copies, pt_r_shuts, pu_r_shuts, pt_v_held, pu_v_held, pt_v_lengths, pu_v_lengths, pt_v_begin, pu_v_begin, pt_v_steps, pu_v_steps, pr_many, pr_width, pr_pages, pr_copies, pr_shuts, rF_len, List.mem_cons, List.mem_singleton, List.not_mem_nil, Nat.reduceLT, lk_v1_tell, List.set_set, List.getElem?_set_self, get_mid, get_mid2, eq_self])
local macro_rules | `(tactic| walk_at "gc") => `(tactic| first | refine cnd_t (decide_eq_true (by omega)) ?_ | refine cnd_f (decide_eq_false (by omega)) ?_)
local macro_rules | `(tactic| walk_at "gw") => `(tactic| (walk_at "gs"; repeat (walk_at "gc"; walk_at "gs")))
local macro_rules | `(tactic| walk_at "gv") => `(tactic| (walk_at "gs"; repeat ((first | refine ap_room ?_ | refine ap_sides ?_ | refine ap_first ?_ | refine ap_strides ?_); walk_at "gs")))
local macro_rules | `(tactic| walk_at "gu") => `(tactic| (walk_at "gv"; repeat (walk_at "gc"; walk_at "gv")))
local macro_rules | `(tactic| walk_at "gh") => `(tactic| try simp -implicitDefEqProofs only [↓h_oP, ↓h_vr, ↓h_vI, ↓h_cnd, ↓h_eqR, ↓h_inR, ↓h_ap, ↓h_wLoop, ↓h_wComp, ↓h_gcd, ↓h_fldC, ↓h_stC, ↓h_stFC, ↓h_agC, ↓h_mtC, ↓h_exC, ↓h_lenC, ↓h_eqOR, ↓h_eqIR, ↓h_eqMR, ↓h_bmC, ↓h_apC, ↓x_skip, ↓x_seq, ↓x_asg, ↓x_asgT, ↓x_asgS, ↓x_asgD, ↓x_setIx, ↓x_setFld, ↓x_aug, ↓x_augFld, ↓x_ret, ↓x_ex, ↓x_ifS, ↓x_for, ↓x_brk, ↓x_bad, ↓x_badE, ↓x_cont, ↓x_ret0, ↓x_con, ↓x_var, ↓x_thaw, ↓x_cool, ↓x_maxD, ↓x_bin, ↓x_neg, ↓x_nt, ↓x_cmp, ↓x_chn, ↓x_an, ↓x_orr, ↓x_ife, ↓x_tup, ↓x_lst, ↓x_ix, ↓x_sl, ↓x_sl3, ↓x_srev, ↓x_fld, ↓x_call, ↓x_callk, ↓x_newk, ↓x_lrng, ↓x_lnrg, ↓x_lenI, ↓x_cmpO, ↓x_cmpM, ↓x_cmpI, ↓x_lenL, ↓x_lenA, ↓x_lenT, ↓x_lenO, ↓x_lenR, ↓x_lenCi, ↓x_lenCl, ↓x_lenCf, ↓x_new, ↓x_mth, ↓x_blt, ↓x_bm, ↓x_isi, ↓x_lc, ↓x_lc2, ↓x_yes, ↓x_val, ↓x_ntB, ↓x_anB, ↓x_orB, ↓x_oN, ↓x_oS, ↓x_nil, ↓x_cons, ↓x_ival, ↓x_rng1, ↓x_rng2, ↓x_rng3, ↓x_enum, ↓x_enumz, ↓x_zip, ↓x_rev, ↓x_oPs, ↓x_vrs, ↓x_vIs, ↓x_inI, ↓x_inB, ↓x_inV, ↓x_toI, ↓x_toIb, ↓x_toB, ↓x_toBb, ↓x_cT, ↓x_cF, ↓x_cN, ↓x_thwA, ↓x_thwV, ↓x_adV, ↓x_adA, ↓x_asN, ↓x_asV, ↓x_asA, ↓x_fldO, ↓x_ixN, ↓x_mthO, ↓x_bII, ↓x_bTI, ↓x_bTT, ↓x_blAA, ↓x_blAL, ↓x_bmA, ↓x_blLA, ↓x_blLL, ↓x_bmL, ↓x_blRA, ↓x_blRL, ↓x_blRR, ↓x_blAR, ↓x_blLR, ↓x_binIp, ↓x_binIs, ↓x_binIm, ↓x_binId, ↓x_binIr, ↓x_binAp, ↓x_binAs, ↓x_binAm, ↓x_binAd, ↓x_binAr, ↓x_binIw, ↓x_lt, ↓x_le, ↓x_gt, ↓x_ge, ↓x_eq, ↓x_ne, ↓x_is, ↓x_isn, ↓x_in, ↓x_nin, ↓x_eqI, ↓x_eqT, ↓x_oInt, ↓x_iInt, ↓x_oBl, ↓x_iBl, ↓x_oNon, ↓x_iNon, ↓x_oTup, ↓x_iTup, ↓x_oLst, ↓x_iLst, ↓x_oAl, ↓x_iAl, ↓x_oStr, ↓x_iStr, ↓x_ixR, ↓x_slT, ↓x_slA, ↓x_slL, ↓x_slR, ↓x_sl3R, ↓x_partI, ↓x_partN, ↓x_hdC, ↓x_srT, ↓x_srA, ↓x_srL, ↓x_srR, ↓x_len, ↓x_abs, ↓x_min, ↓x_max, ↓x_min1, ↓x_max1, ↓x_sum, ↓x_all, ↓x_any, ↓x_int, ↓x_bool, ↓x_list, ↓x_tuple, ↓x_dm, ↓x_fldR0, ↓x_fldC, ↓x_stIx0, ↓x_stC, ↓x_stFld0, ↓x_stFC, ↓x_agFld0, ↓x_agC, ↓x_mth0, ↓x_mtC, ↓x_apd0, ↓x_bm_remove, ↓x_bm_pop, ↓x_bm_insert, ↓x_bm_reverse, ↓x_bm_clear, ↓x_bmCl, ↓x_cnt, ↓x_idxm, ↓x_bmK, ↓x_ext0, ↓x_exC, ↓x_apC, Bool.true_xor, Bool.false_xor, bfRm, bfP0, bfP1, bfIn, bfRv, bfCl, sqT, sqL, sqA, lsL, lsA, lmL, lmA, lmR, lmCl, cvT, cvF, arN, arP, arK, arD, lkHit, tpTv, tpT, tpL, tpA, tpR, trN, trB, trI, trT, trL, trA, itN, itB, itI, itS, itT, itL, itA, itO, sqR, lsR, lsCl, lsCf, trR, trCl, trCf, itR, itCl, itCf, itCi, gv0, gvS, sv0, svS, uv0, uvS, svsN, svsC, uvsN, uvsC, wGn, wGt, wGsN, wGsC, ctNn, ctNt, ctNsN, ctNsC, st0E, isNN, isBN, isIN, isSN, isTN, isLN, isON, isRN, isAN, isBB, at0, ix0, at1, ix1, at2, ix2, at3, ix3, at4, ix4, at5, ix5, at6, ix6, at7, ix7, atI_map, lkRV, sz0, sz1, sz2, sz3, sz4, sz5, sz6, sz7, sz8, sz9, sz10, sz11, sz12, sz13, sz14, sz15, sz16, ↓hid_val, enum_map, zip_map, rev_map, List.map_cons, List.map_nil, List.length_cons, List.length_nil, List.length_map, List.replicate_succ, List.replicate_zero, List.cons_append, List.nil_append, List.append_nil, Option.bind_some, Option.map_some, Option.isSome_some, Option.isSome_none, reduceCtorEq, Nat.reduceAdd, Nat.reduceSub, Nat.reduceMul, ite_true, ite_false, if_true, if_false, Bool.not_true, Bool.not_false, Bool.not_not, decide_true, decide_false, Bool.false_eq_true, and_true, true_and, len_concat, set_concat, List.set_cons_zero, List.set_cons_succ, List.getD_cons_zero, List.getD_cons_succ, List.take_succ_cons, List.take_zero, List.drop_succ_cons, List.drop_zero, List.getElem?_cons_zero, List.getElem?_cons_succ, ints_map, ints_map', bls_map, or_self, false_or, or_false, true_or, or_true, Nat.zero_add, List.isEmpty_cons, List.isEmpty_nil, lk_rF_many, lk_rF_width, lk_rF_pages, lk_rF_copies, lk_rF_shuts, lk_rF_read, lk_rF_write, lk_rF_need, lk_rF_numbers, lk_rF_own_page, lk_rF_twin, lk_rF_copied, lk_rF_is_shut, lk_rF_shared, lk_pF_kept, lk_pF_holders, lk_vF_held, lk_vF_lengths, lk_vF_begin, lk_vF_steps, lk_vF_tell, lk_vF_room, lk_vF_sides, lk_vF_first, lk_vF_strides, lk_vF_cells, lk_vF_cell, lk_vF_at, lk_vF_put, lk_vF_numbers, lk_vF_nested, lk_vF_twin, lk_vF_copy_of, lk_pZ_kept, lk_pZ_holders, lk_vZ_held, lk_vZ_lengths, lk_vZ_begin, lk_vZ_steps, lk_vZ_tell, lk_vZ_room, lk_vZ_sides, lk_vZ_first, lk_vZ_strides, lk_vZ_cells, lk_vZ_cell, lk_vZ_at, lk_vZ_put, lk_vZ_numbers, lk_vZ_nested, lk_vZ_twin, lk_vZ_copy_of, pt_p_kept, pu_p_kept, pt_p_holders, pu_p_holders, pt_r_many, pu_r_many, pt_r_width, pu_r_width, pt_r_pages, pu_r_pages, pt_r_copies, pu_r_copies, pt_r_shuts, pu_r_shuts, pt_v_held, pu_v_held, pt_v_lengths, pu_v_lengths, pt_v_begin, pu_v_begin, pt_v_steps, pu_v_steps, pr_many, pr_width, pr_pages, pr_copies, pr_shuts, rF_len, List.mem_cons, List.mem_singleton, List.not_mem_nil, Nat.reduceLT, lk_v1_tell, List.set_set, List.getElem?_set_self, get_mid, get_mid2, eq_self, *])
theorem perm_add {α : Type} (P X Y : List α) (u v : α) : (u :: v :: (P ++ (X ++ Y))).Perm (P ++ ((X ++ [u]) ++ (Y ++ [v]))) := by
  have e1 : P ++ ((X ++ [u]) ++ (Y ++ [v])) = (P ++ X) ++ u :: (Y ++ [v]) := by simp
  have e2 : (P ++ X) ++ (Y ++ [v]) = (P ++ (X ++ Y)) ++ v :: [] := by simp
  rw [e1]
  refine List.Perm.symm (List.perm_middle.trans (List.Perm.cons _ ?_))
  rw [e2]
  refine List.perm_middle.trans ?_
  rw [List.append_nil]
def sp_law_twin_5e11 (c : Cn) : Spec := fun cs h k _ => ∃ (l a0 a1 a2 a3 a4 : Nat) (sc : List CV) (a b : Int) (W : GW) (o : Own) (ds ps : List Nat) (f : Nat → Int) (g : Nat → Nat) (cnt : Int) (i : Nat), cs = [hsV a0 a1 a2 a3 a4, .int i] ∧ B9 c h l a0 a1 a2 a3 a4 sc a b W o ds ps f g cnt ∧ i < W.rs.length ∧ W.rs.length < 7 ∧
  ∀ h' W o ds ps f g cnt, B9 c h' l a0 a1 a2 a3 a4 sc a b W o ds ps f g cnt → 0 < W.rs.length → k (.v .non) h'
/-- _law_twin: 0 _law_house, 1 _law_which -/
def ir_law_twin_5e11 (c : Cn) : CS := .seq (.ex (.bm .append (.ix (.var 0) (.con (.int 0))) (.cons (.thaw (.mth [(c.Room, (sp_Room_twin c), 1, [])] "twin" (.ix (.ix (.var 0) (.con (.int 0))) (.var 1)) (.nil))) (.nil)))) (.seq (.ex (.bm .append (.ix (.var 0) (.con (.int 1))) (.cons (.thaw (.blt .list (.cons (.ix (.ix (.var 0) (.con (.int 1))) (.var 1)) (.nil)))) (.nil)))) (.seq (.ex (.bm .append (.ix (.var 0) (.con (.int 2))) (.cons (.thaw (.blt .list (.cons (.ix (.ix (.var 0) (.con (.int 2))) (.var 1)) (.nil)))) (.nil)))) (.ex (.bm .append (.ix (.var 0) (.con (.int 3))) (.cons (.thaw (.ix (.ix (.var 0) (.con (.int 3))) (.var 1))) (.nil))))))
theorem w_law_twin_5e11 (c : Cn) : ∀ cs h k E, sp_law_twin_5e11 c cs h k E → cs.length = 2 → clH h → clVs h.length cs → wS (ir_law_twin_5e11 c) (ret0 h k E) (st0 2 cs) h := by
  rintro _ h k E ⟨l, a0, a1, a2, a3, a4, sc, a, b, W, o, ds, ps, f, g, cnt, i, rfl, B, li, few, hk⟩ _ hc _
  unfold ir_law_twin_5e11 hsV
  have hR := List.getElem?_eq_getElem li
  generalize W.rs[i] = R at hR
  have dl := B.dl
  have pl := B.pl
  have mR := List.mem_of_getElem? hR
  obtain ⟨di, hd⟩ : ∃ d, ds[i]? = some d := ⟨_, List.getElem?_eq_getElem (by omega)⟩
  obtain ⟨pi, hp⟩ : ∃ d, ps[i]? = some d := ⟨_, List.getElem?_eq_getElem (by omega)⟩
  have ed : Option.map CV.ref (atI ds (i : Int)) = some (.ref di) := by rw [atI_nat hd]; rfl
  have ep : Option.map CV.ref (atI ps (i : Int)) = some (.ref pi) := by rw [atI_nat hp]; rfl
  have ew : Option.map (fun R : RG => CV.int R.w) (atI W.rs (i : Int)) = some (.int R.w) := by rw [atI_nat hR]; rfl
  have sz : sizeLine = 2 ^ 24 := rfl
  walk_at "gs"
  rw [B.S.get (a := a0) (x := .lst W.refs) (by simp)]
  walk_at "gs"
  refine oP_mk (refs_at hR) ?_
  walk_at "gs"
  rw [B.S.ins hR]
  walk_at "gs"
  refine B.S.twin hR (by omega) fun h4 o4 S4 l4 => ?_
  walk_at "gs"
  rw [S4.get (a := a0) (x := .lst W.refs) (by simp)]
  walk_at "gs"
  refine ⟨by simp [GW.refs]; omega, ?_⟩
  have er : (W.twn h.length R).refs = W.refs ++ [.ref h.length] := by
    show (W.rs ++ [_]).map _ = _
    rw [List.map_append]; rfl
  have S5 := S4.put (L := [_, _]) (a := a0) (.lst (W.refs ++ [.ref h.length]))
  generalize h4.set a0 (CO.lst (W.refs ++ [CV.ref h.length])) = h5 at S5 ⊢
  rw [S5.get (a := a1) (x := .lst (ds.map .ref)) (by simp)]
  refine ⟨rfl, ?_⟩
  walk_at "gs"
  refine oP_mk ed ?_
  walk_at "gs"
  rw [S5.get (a := di) (x := .lst ((W.nums R).map .int)) (by have := lstC_at hd (tab_get hR); simp only [List.mem_append, List.mem_cons, List.cons_append]; simp only [this, or_true])]
  walk_at "gs"
  have S6 := S5.push (.lst ((W.nums R).map .int))
  rw [S6.get (a := a1) (x := .lst (ds.map .ref)) (by simp)]
  walk_at "gs"
  refine ⟨by omega, ?_⟩
  have S7 := S6.put (L := [_, _, _, _]) (a := a1) (.lst (ds.map .ref ++ [.ref h5.length]))
  generalize (h5 ++ [CO.lst ((W.nums R).map CV.int)]).set a1 (CO.lst (ds.map CV.ref ++ [CV.ref h5.length])) = h7 at S7 ⊢
  rw [S7.get (a := a2) (x := .lst (ps.map .ref)) (by simp)]
  refine ⟨rfl, ?_⟩
  walk_at "gs"
  refine oP_mk ep ?_
  walk_at "gs"
  rw [S7.get (a := pi) (x := .lst ((R.ps.map f).map .int)) (by have := lstC_at hp (nmT_at (f := f) hR); simp only [List.mem_append, List.mem_cons, List.cons_append]; simp only [this, or_true, true_or])]
  walk_at "gs"
  have S8 := S7.push (.lst ((R.ps.map f).map .int))
  rw [S8.get (a := a2) (x := .lst (ps.map .ref)) (by simp)]
  walk_at "gs"
  refine ⟨by omega, ?_⟩
  have S9 := S8.put (L := [_, _, _, _, _, _]) (a := a2) (.lst (ps.map .ref ++ [.ref h7.length]))
  generalize (h7 ++ [CO.lst ((R.ps.map f).map CV.int)]).set a2 (CO.lst (ps.map CV.ref ++ [CV.ref h7.length])) = h9 at S9 ⊢
  rw [S9.get (a := a3) (x := .lst (W.rs.map fun R => CV.int R.w)) (by simp)]
  refine ⟨rfl, ?_⟩
  walk_at "gs"
  refine oP_mk ew ?_
  walk_at "gs"
  rw [S9.get (a := a3) (x := .lst (W.rs.map fun R => CV.int R.w)) (by simp)]
  walk_at "gs"
  refine ⟨by first | omega | (simp; omega), ?_⟩
  have S10 := S9.put (L := [_, _, _, _, _, _, _]) (a := a3) (.lst ((W.rs.map fun R => CV.int R.w) ++ [.int R.w]))
  refine gc_same (hk _ (W.twn h.length R) o4 (ds ++ [h5.length]) (ps ++ [h7.length]) f g cnt ⟨S10.perm ?_, B.bok, ?_, ?_, nm_twn B.N mR, ?_, ?_⟩ ?_)
  · have q := perm_add [(l, CO.lst [CV.int a, CV.int b]), (0, CO.fro sc), (a0, CO.lst (W.refs ++ [.ref h.length])), (a1, CO.lst (ds.map .ref ++ [.ref h5.length])), (a2, CO.lst (ps.map .ref ++ [.ref h7.length])), (a3, CO.lst ((W.rs.map fun R => CV.int R.w) ++ [.int R.w])), (a4, CO.lst [.int cnt])] (lstC ps (W.nmT f)) (lstC ds W.tab) (h7.length, CO.lst ((R.ps.map f).map .int)) (h5.length, CO.lst ((W.nums R).map .int))
    rw [← lstC_snoc (by rw [nmT_len]; omega), ← lstC_snoc (by rw [tab_len]; omega), ← nmT_twn (n := h.length), ← twn_tab (n := h.length), ← er] at q
    have ew2 : (W.twn h.length R).rs.map (fun R => CV.int R.w) = (W.rs.map fun R => CV.int R.w) ++ [.int R.w] := by
      show (W.rs ++ [_]).map _ = _
      rw [List.map_append]; rfl
    rw [← ew2] at q
    have em : ∀ (xs : List Nat) (x : Nat), (xs ++ [x]).map CV.ref = xs.map CV.ref ++ [.ref x] := fun xs x => by simp
    rw [em, em, ew2, er]
    rw [ew2, er] at q
    exact q
  · show _ = (W.rs ++ [_]).length
    simp; omega
  · show _ = (W.rs ++ [_]).length
    simp; omega
  · show (W.rs ++ [_]).length ≤ 7
    simp; omega
  · intro T hT
    rcases List.mem_append.mp (show T ∈ W.rs ++ [_] from hT) with m | m
    · exact B.ok T m
    · rw [List.mem_singleton.mp m]; exact ⟨rfl, (B.ok R mR).2⟩
  · show 0 < (W.rs ++ [_]).length
    simp
def sp_law_write_4795 (c : Cn) : Spec := fun cs h k _ => ∃ (l a0 a1 a2 a3 a4 : Nat) (sc : List CV) (a b : Int) (W : GW) (o : Own) (ds ps : List Nat) (f : Nat → Int) (g : Nat → Nat) (cnt : Int) (i : Nat) (R : RG) (cell : Nat) (v : Int), cs = [hsV a0 a1 a2 a3 a4, .int i, .int cell, .int v] ∧ B9 c h l a0 a1 a2 a3 a4 sc a b W o ds ps f g cnt ∧ W.rs[i]? = some R ∧ cell < R.m ∧
  ∀ h' W o ds ps f g cnt, B9 c h' l a0 a1 a2 a3 a4 sc a b W o ds ps f g cnt → 0 < W.rs.length → k (.v .non) h'
/-- _law_write: 0 _law_house, 1 _law_which, 2 _law_cell_here, 3 _law_number, 4 _law_at, 5 _law_name, 6 _law_pages -/
def ir_law_write_4795 (c : Cn) : CS := .seq (.ex (.mth [(c.Room, (sp_Room_write c), 3, [])] "write" (.ix (.ix (.var 0) (.con (.int 0))) (.var 1)) (.cons (.var 2) (.cons (.var 3) (.nil))))) (.seq (.ife (.val (.cmp .Eq (.ix (.ix (.ix (.var 0) (.con (.int 1))) (.var 1)) (.var 2)) (.var 3))) (.ret (.con .non)) (.skip)) (.seq (.setIx (.ix (.ix (.var 0) (.con (.int 1))) (.var 1)) (.var 2) (.var 3)) (.seq (.asg 4 (.bin .FloorDiv (.var 2) (.ix (.ix (.var 0) (.con (.int 3))) (.var 1)))) (.seq (.asg 5 (.ix (.ix (.ix (.var 0) (.con (.int 2))) (.var 1)) (.var 4))) (.ife (.val (.cmp .Gt (.blt .sum (.cons (.lc [6] (.name 6) (.val (.ix (.var 0) (.con (.int 2)))) (.yes) (.bm .count (.var 6) (.cons (.var 5) (.nil)))) (.nil))) (.con (.int 1)))) (.seq (.setIx (.ix (.ix (.var 0) (.con (.int 2))) (.var 1)) (.var 4) (.ix (.ix (.var 0) (.con (.int 4))) (.con (.int 0)))) (.setIx (.ix (.var 0) (.con (.int 4))) (.con (.int 0)) (.bin .Add (.ix (.ix (.var 0) (.con (.int 4))) (.con (.int 0))) (.con (.int 1))))) (.skip))))))
theorem w_law_write_4795 (c : Cn) : ∀ cs h k E, sp_law_write_4795 c cs h k E → cs.length = 4 → clH h → clVs h.length cs → wS (ir_law_write_4795 c) (ret0 h k E) (st0 7 cs) h := by
  rintro _ h k E ⟨l, a0, a1, a2, a3, a4, sc, a, b, W, o, ds, ps, f, g, cnt, i, R, cell, v, rfl, B, hR, hcl, hk⟩ _ hc _
  unfold ir_law_write_4795 hsV
  have dl := B.dl
  have pl := B.pl
  have few := B.few
  have mR := List.mem_of_getElem? hR
  have li := (List.getElem?_eq_some_iff.mp hR).1
  obtain ⟨di, hd⟩ : ∃ d, ds[i]? = some d := ⟨_, List.getElem?_eq_getElem (by omega)⟩
  obtain ⟨pi, hp⟩ : ∃ d, ps[i]? = some d := ⟨_, List.getElem?_eq_getElem (by omega)⟩
  have ed : Option.map CV.ref (atI ds (i : Int)) = some (.ref di) := by rw [atI_nat hd]; rfl
  have ep : Option.map CV.ref (atI ps (i : Int)) = some (.ref pi) := by rw [atI_nat hp]; rfl
  have ew : Option.map (fun R : RG => CV.int R.w) (atI W.rs (i : Int)) = some (.int R.w) := by rw [atI_nat hR]; rfl
  have r := B.S.w.rm i R hR
  have w0 := r.w0
  have w1 := r.w1
  have ok := B.ok R mR
  have lR := (ps_len r).2
  have sz : sizeLine = 2 ^ 24 := rfl
  obtain ⟨u, hu⟩ : ∃ u, (W.nums R)[cell]? = some u := ⟨_, List.getElem?_eq_getElem (by rw [r.ml]; omega)⟩
  have eu : Option.map CV.int (atI (W.nums R) (cell : Int)) = some (.int u) := by rw [atI_nat hu]; rfl
  obtain ⟨p, hpg⟩ := room_ok (cell := cell) r hcl
  have hpf : (R.ps.map f)[cell / R.w]? = some (f p) := by rw [List.getElem?_map, hpg]; rfl
  have efn : Option.map CV.int (atI (R.ps.map f) ((cell : Int) / (R.w : Int))) = some (.int (f p)) := by rw [show ((cell : Int) / (R.w : Int)) = ((cell / R.w : Nat) : Int) from rfl, atI_nat hpf]; rfl
  walk_at "gs"
  rw [B.S.get (a := a0) (x := .lst W.refs) (by simp)]
  walk_at "gs"
  refine oP_mk (refs_at hR) ?_
  walk_at "gs"
  rw [B.S.ins hR]
  walk_at "gs"
  refine B.S.write hR hcl ok.1 fun h7 o7 S7 l7 => ?_
  have PT := put_tab B.S.w hR (cell := cell) (v := v) hcl
  have PR := put_refs (n := h.length) hR (cell := cell) (v := v)
  have PS := put_sh0 (n := h.length) hR (cell := cell) (v := v) (P := (· = 0)) fun T hT => (B.ok T hT).1
  have PM := put_mw (n := h.length) hR (cell := cell) (v := v) (P := fun x y => x ≤ 40) fun T hT => (B.ok T hT).2
  have PL := put_rl (n := h.length) hR (cell := cell) (v := v)
  have PW : (W.put h.length i R cell v).rs.map (fun R => CV.int R.w) = W.rs.map fun R => CV.int R.w := by
    have := congrArg (List.map (fun s : Nat × Nat × Nat × Int => CV.int s.2.2.1)) (put_sk (n := h.length) hR (cell := cell) (v := v))
    rw [List.map_map, List.map_map] at this
    exact this
  have md : (di, CO.lst ((W.nums R).map .int)) ∈ lstC ds W.tab := lstC_at hd (tab_get hR)
  have mp : (pi, CO.lst ((R.ps.map f).map .int)) ∈ lstC ps (W.nmT f) := lstC_at hp (nmT_at hR)
  walk_at "gs"
  rw [S7.get (a := a1) (x := .lst (ds.map .ref)) (by simp)]
  walk_at "gs"
  refine oP_mk ed ?_
  walk_at "gs"
  rw [S7.get (a := di) (x := .lst ((W.nums R).map .int)) (by simp only [List.mem_append, List.mem_cons, List.cons_append]; simp only [md, or_true])]
  walk_at "gs"
  refine oP_mk eu ?_
  walk_at "gs"
  refine cnd_dec (fun z => ?_) (fun z => ?_)
  · walk_at "gs"
    have e : W.put h.length i R cell v = W := put_none (by rw [hu, z])
    rw [e] at S7
    exact gc_same (hk h7 W o7 ds ps f g cnt { B with S := S7 } (by omega))
  have NP := nm_put B.S.w B.N hR hpg (v := v) (by rw [hu]; intro q; exact z (Option.some.inj q))
  have CT := nm_cnt B.S.w B.N (p := p) ⟨R, mR, List.mem_of_getElem? hpg⟩
  generalize hV : W.put h.length i R cell v = V at S7 PT PR PS PM PL PW NP
  walk_at "gs"
  rw [S7.get (a := a1) (x := .lst (ds.map .ref)) (by simp)]
  walk_at "gs"
  refine oP_mk ed ?_
  walk_at "gs"
  rw [S7.get (a := di) (x := .lst ((W.nums R).map .int)) (by simp only [List.mem_append, List.mem_cons, List.cons_append]; simp only [md, or_true])]
  walk_at "gs"
  refine oP_mk (x := cell) (ixN_at (by rw [r.ml]; omega)) ?_
  walk_at "gs"
  rw [← List.map_set]
  have S8 := St.setTab' (P := (l, _) :: (0, _) :: (a0, _) :: (a1, _) :: (a2, _) :: (a3, _) :: (a4, _) :: lstC ps (W.nmT f)) S7 hd (tab_get hR) ((W.nums R).set cell v)
  rw [← PT] at S8
  generalize h7.set di (CO.lst (((W.nums R).set cell v).map CV.int)) = h8 at S8 ⊢
  walk_at "gs"
  rw [S8.get (a := a3) (x := .lst (W.rs.map fun R => CV.int R.w)) (by simp)]
  walk_at "gs"
  refine oP_mk ew ?_
  walk_at "gs"
  refine ⟨⟨by omega, by omega⟩, ?_⟩
  walk_at "gs"
  rw [S8.get (a := a2) (x := .lst (ps.map .ref)) (by simp)]
  walk_at "gs"
  refine oP_mk ep ?_
  walk_at "gs"
  rw [S8.get (a := pi) (x := .lst ((R.ps.map f).map .int)) (by simp only [List.mem_append, List.mem_cons, List.cons_append]; simp only [mp, or_true, true_or])]
  walk_at "gs"
  refine oP_mk efn ?_
  walk_at "gs"
  rw [S8.get (a := a2) (x := .lst (ps.map .ref)) (by simp)]
  walk_at "gs"
  refine ⟨by omega, comp_map (f := CV.ref) (ns := ps) (fun d acc h' => h' = h8 ∧ acc = ((W.nmT f).take d.length).map fun nm => CV.int ((nm.count (f p) : Nat) : Int)) ⟨rfl, rfl⟩ (fun d r acc h' _ q => by rw [q.1]; exact gd_self _ _) ?_ ?_⟩
  · rintro d x r2 acc _ e ⟨rfl, rfl⟩
    have hx : ps[d.length]? = some x := by rw [e]; simp
    obtain ⟨T, hT⟩ : ∃ T, W.rs[d.length]? = some T := ⟨_, List.getElem?_eq_getElem (by have := (List.getElem?_eq_some_iff.mp hx).1; omega)⟩
    have mx : (x, CO.lst ((T.ps.map f).map .int)) ∈ lstC ps (W.nmT f) := lstC_at hx (nmT_at hT)
    walk_at "gs"
    rw [S8.get (a := x) (x := .lst ((T.ps.map f).map .int)) (by simp only [List.mem_append, List.mem_cons, List.cons_append]; simp only [mx, or_true, true_or])]
    walk_at "gs"
    rw [List.length_append, List.length_singleton, List.take_add_one, nmT_at hT, List.map_append]
    rfl
  rintro _ h8 ⟨rfl, rfl⟩
  rw [List.take_of_length_le (by rw [nmT_len]; omega)]
  walk_at "gs"
  rw [CT]
  refine cnd_dec (fun z2 => ?_) (fun z2 => ?_)
  · obtain ⟨f', g', N', T'⟩ := NP.2 (by omega)
    walk_at "gs"
    rw [S8.get (a := a4) (x := .lst [.int cnt]) (by simp)]
    walk_at "gs"
    rw [S8.get (a := a2) (x := .lst (ps.map .ref)) (by simp)]
    walk_at "gs"
    refine oP_mk ep ?_
    walk_at "gs"
    rw [S8.get (a := pi) (x := .lst ((R.ps.map f).map .int)) (by simp only [List.mem_append, List.mem_cons, List.cons_append]; simp only [mp, or_true, true_or])]
    walk_at "gs"
    refine oP_mk (x := cell / R.w) (ixN_at (n := R.ps.length) (i := cell / R.w) (List.getElem?_eq_some_iff.mp hpg).1) ?_
    have S9 := St.setTab (P := [(l, _), (0, _), (a0, _), (a1, _), (a2, _), (a3, _), (a4, _)]) (Q := lstC ds V.tab) S8 hp (nmT_at hR) ((R.ps.map f).set (cell / R.w) cnt)
    rw [← T'] at S9
    walk_at "gs"
    rw [← List.map_set]
    generalize h8.set pi (CO.lst (((R.ps.map f).set (cell / R.w) cnt).map CV.int)) = h9 at S9 ⊢
    rw [S9.get (a := a4) (x := .lst [.int cnt]) (by simp)]
    walk_at "gs"
    rw [S9.get (a := a4) (x := .lst [.int cnt]) (by simp)]
    walk_at "gs"
    have S10 := S9.put (L := [(l, _), (0, _), (a0, _), (a1, _), (a2, _), (a3, _)]) (a := a4) (.lst [.int (cnt + 1)])
    rw [← PR, ← PW] at S10
    exact gc_same (hk _ V o7 ds ps f' g' (cnt + 1) ⟨S10, B.bok, by omega, by omega, N', by omega, fun T hT => ⟨PS T hT, PM T hT⟩⟩ (by omega))
  · obtain ⟨N', T'⟩ := NP.1 (by omega)
    walk_at "gs"
    rw [← PR, ← PW, ← T'] at S8
    exact gc_same (hk _ V o7 ds ps f g cnt ⟨S8, B.bok, by omega, by omega, N', by omega, fun T hT => ⟨PS T hT, PM T hT⟩⟩ (by omega))
end G

namespace G
open PySem PySem.Spec PyProof.Rows L2
/-! ### how a call lays its values -/
inductive Sr where
  | p (i : Nat) | d (i : Nat) | m (i : Nat) | k (i : Nat)
def opt {α : Type} (o : Option α) (t : List α) : List α := match o with
  | some x => x :: t
  | none => t
def lay {α : Type} : List Sr → List α → List α → List α → List α → List α
  | [], _, _, _, _ => []
  | .p i :: l, us, ds, ms, zs => opt us[i]? (lay l us ds ms zs)
  | .d i :: l, us, ds, ms, zs => opt ds[i]? (lay l us ds ms zs)
  | .m i :: l, us, ds, ms, zs => opt ms[i]? (lay l us ds ms zs)
  | .k i :: l, us, ds, ms, zs => opt zs[i]? (lay l us ds ms zs)
theorem Vals.at' {vs : List V} {us : List Value} (r : Vals vs us) (i : Nat) : (vs[i]? = none ∧ us[i]? = none) ∨ ∃ v u, vs[i]? = some v ∧ us[i]? = some u ∧ RelV v u := by
  induction r generalizing i with
  | nil => exact .inl ⟨by simp, by simp⟩
  | cons a b ih =>
    cases i with
    | zero => exact .inr ⟨_, _, rfl, rfl, a⟩
    | succ i => simpa using ih i
theorem lay_rel (l : List Sr) {vs ds mz zs : List V} {us its mv ws : List Value} (a : Vals vs us) (b : Vals ds its) (c : Vals mz mv) (d : Vals zs ws) : Vals (lay l vs ds mz zs) (lay l us its mv ws) := by
  have one : ∀ {xs : List V} {ys : List Value} (r : Vals xs ys) (i : Nat) {t : List V} {t' : List Value}, Vals t t' → Vals (opt xs[i]? t) (opt ys[i]? t') := fun {xs ys} r i {t t'} q => by
    rcases Vals.at' r i with ⟨e1, e2⟩ | ⟨v, u, e1, e2, h⟩
    · rw [e1, e2]; exact q
    · rw [e1, e2]; exact .cons h q
  induction l with
  | nil => exact .nil
  | cons s l ih =>
    cases s with
    | p i => exact one a i ih
    | d i => exact one b i ih
    | m i => exact one c i ih
    | k i => exact one d i ih
def srC (ds ms : List CV) : Sr → Src
  | .p i => .p i
  | .d i => .d (ds.getD i .non)
  | .m i => .d (ms.getD i .non)
  | .k i => .k i
def okS (np nk nd nm : Nat) : Sr → Bool
  | .p i => decide (i < np)
  | .d i => decide (i < nd)
  | .m i => decide (i < nm)
  | .k i => decide (i < nk)
theorem RVs.getD {K : PySem.W.Frag} {H : Hp} {μ : Mu} {xs : List CV} {vs : List V} (r : RVs K H μ xs vs) {i : Nat} (h : i < xs.length) : ∃ v, vs[i]? = some v ∧ RV K H μ (xs.getD i .non) v := by
  obtain ⟨v, a, b⟩ := r.get (List.getElem?_eq_getElem h)
  refine ⟨v, a, ?_⟩
  rw [List.getD_eq_getElem?_getD, List.getElem?_eq_getElem h]
  exact b
theorem ar_ok {K : PySem.W.Frag} {dC mC : List CV} {dV mV : List V} (hd : DV K dC dV) (hm : DV K mC mV) (np nk : Nat) (l : List Sr) (ok : l.all (okS np nk dC.length mC.length) = true) : ArOk K np nk (l.map (srC dC mC)) (fun vs zs => lay l vs dV mV zs) := by
  intro H μ cs vs zs ws l1 l2 r1 r2
  induction l with
  | nil => exact .nil
  | cons s l ih =>
    rw [List.all_cons, Bool.and_eq_true] at ok
    have t := ih ok.2
    cases s with
    | p i =>
      obtain ⟨v, e, r⟩ := r1.getD (i := i) (by rw [l1]; simpa [okS] using ok.1)
      show RVs K H μ (_ :: arC _ _ _) (opt _ (lay l _ _ _ _))
      rw [e]
      exact .cons r t
    | d i =>
      obtain ⟨v, e, r⟩ := (hd H μ).getD (i := i) (by simpa [okS] using ok.1)
      show RVs K H μ (_ :: arC _ _ _) (opt _ (lay l _ _ _ _))
      rw [e]
      exact .cons r t
    | m i =>
      obtain ⟨v, e, r⟩ := (hm H μ).getD (i := i) (by simpa [okS] using ok.1)
      show RVs K H μ (_ :: arC _ _ _) (opt _ (lay l _ _ _ _))
      rw [e]
      exact .cons r t
    | k i =>
      obtain ⟨v, e, r⟩ := r2.getD (i := i) (by rw [l2]; simpa [okS] using ok.1)
      show RVs K H μ (_ :: arC _ _ _) (opt _ (lay l _ _ _ _))
      rw [e]
      exact .cons r t
theorem dv_nil {K : PySem.W.Frag} : DV K [] [] := fun _ _ => .nil
theorem dv_cons {K : PySem.W.Frag} {c : CV} {v : V} {cs : List CV} {vs : List V} (a : ∀ H μ, RV K H μ c v) (b : DV K cs vs) : DV K (c :: cs) (v :: vs) := fun H μ => .cons (a H μ) (b H μ)
section
variable {P : Program} {w : World} {K : PySem.W.Frag} {mg : Str → Option Value} {base : Heap} {k : Nat}
/-- a def with defaults and keyword-only ones -/
theorem fund_mk {x qual : Str} {st : Stmt} {f : Addr} {dvs : List V} {kws : List (Str × V)} {oc : Value} {od an : Option Addr} {osl : Array (Option Value)} {dV kV doc pm cdv ct : Value} (l : K.lookup f = some ⟨oc, od, .func (PySem.W.fnOf x qual (defArgs st) (defBody st) (defScope st) dV kV doc pm an cdv ct), osl⟩)
    (c : PySem.W.codeIn K cdv qual = true) (kk : PySem.W.keepIn K (.ref f) = true) (D : DflV K dV dvs) (W : KwdV K kV kws) : FunD K x qual (defArgs st) (defBody st) (defScope st) dvs kws f (PySem.W.fnOf x qual (defArgs st) (defBody st) (defScope st) dV kV doc pm an cdv ct) := ⟨⟨oc, od, dV, kV, doc, pm, an, cdv, ct, osl, rfl, l, c, D, W⟩, kk⟩
theorem dfl_mk {T : Addr} {oc : Value} {od : Option Addr} {its : List Value} {n : Nat} {osl : Array (Option Value)} {dvs : List V} (ne : dvs ≠ []) (l : K.lookup T = some ⟨oc, od, .seq its.toArray n, osl⟩) (r : Vals dvs its) : DflV K (.ref T) dvs := .inr ⟨ne, T, _, its, n, rfl, l, rfl, r⟩
theorem kwd_mk {D : Addr} {kws : List (Str × V)} (h : ∀ q ∈ kws, ∃ u, PySem.W.nsIn K D q.1 = some (some u) ∧ RelV q.2 u) : KwdV K (.ref D) kws := .inr ⟨D, rfl, h⟩
theorem snk_mk {C f : Addr} {fd : FuncData} {ps : List Str} {sp : Spec} {n np : Nat} {ks : List Str} {j : Nat} {l : List Sr} {dC mC : List CV} {dV mV : List V} {its mv : List Value} (M : Mk K C f) (h : FnOk P w K mg base CX0 j f fd ps (simSp K n sp)) (le : j + 1 ≤ k)
    (b : KBn K fd ps (np + 1) ks (fun us ws => lay l us its mv ws) (fun vs zs => lay l vs dV mV zs)) (hd : DV K dC dV) (hm : DV K mC mV) (ok : l.all (okS (np + 1) ks.length dC.length mC.length) = true) (hl : l.length = n) : SNK P w K mg base k C sp n np ks (l.map (srC dC mC)) :=
  ⟨f, fd, j, ps, _, _, M, h, le, b, ar_ok hd hm (np + 1) ks.length l ok, by simp [hl]⟩
theorem sn_mk {C f : Addr} {fd : FuncData} {ps : List Str} {sp : Spec} {n : Nat} {j : Nat} (M : Mk K C f) (h : FnOk P w K mg base CX0 j f fd ps (simSp K n sp)) (le : j + 1 ≤ k) (b : Binds K fd ps []) : SN P w K mg base k C sp n [] :=
  ⟨f, fd, j, ps, [], [], M, h, le, b, .nil, fun _ _ => .nil⟩
theorem SFK.mono {f : Addr} {sp : Spec} {n np : Nat} {ks : List Str} {ar : List Src} {j : Nat} (h : SFK P w K mg base j f sp n np ks ar) (l : j ≤ k) : SFK P w K mg base k f sp n np ks ar := by
  obtain ⟨fd, i, ps, g, gV, a, b, c⟩ := h.ex
  exact ⟨fd, i, ps, g, gV, a, Nat.le_trans b l, c⟩
theorem SN.mono {f : Addr} {sp : Spec} {n : Nat} {ds : List CV} {j : Nat} (h : SN P w K mg base j f sp n ds) (l : j ≤ k) : SN P w K mg base k f sp n ds := by
  obtain ⟨f, fd, i, ps, dvs, dus, m, a, b, c⟩ := h.ex
  exact ⟨f, fd, i, ps, dvs, dus, m, a, Nat.le_trans b l, c⟩
theorem SNK.mono {f : Addr} {sp : Spec} {n np : Nat} {ks : List Str} {ar : List Src} {j : Nat} (h : SNK P w K mg base j f sp n np ks ar) (l : j ≤ k) : SNK P w K mg base k f sp n np ks ar := by
  obtain ⟨f, fd, i, ps, g, gV, m, a, b, c⟩ := h.ex
  exact ⟨f, fd, i, ps, g, gV, m, a, Nat.le_trans b l, c⟩
theorem sm_mk {C f : Addr} {m : Str} {sp : Spec} {n : Nat} {ds : List CV} (c : Cls K C) (e : Meth K C m f) (s : SF P w K mg base k f sp n ds) : SM P w K mg base k C m sp n ds := ⟨f, c, e, s⟩
theorem fc_nil {f : Str} : ∀ C ∈ ([] : List Addr), Cls K C ∧ NoAttr K C f := fun C h => by cases h
theorem fc_cons {f : Str} {D : Addr} {r : List Addr} (a : Cls K D ∧ NoAttr K D f) (b : ∀ C ∈ r, Cls K C ∧ NoAttr K C f) : ∀ C ∈ D :: r, Cls K C ∧ NoAttr K C f := fun C h => by
  rcases List.mem_cons.mp h with rfl | h
  · exact a
  · exact b C h
theorem fld_cons {f0 : Str} {c0 : List Addr} {r : List (Str × List Addr)} (a : ∀ C ∈ c0, Cls K C ∧ NoAttr K C f0) (b : ∀ f cs, r.lookup f = some cs → ∀ C ∈ cs, Cls K C ∧ NoAttr K C f) : ∀ f cs, List.lookup f ((f0, c0) :: r) = some cs → ∀ C ∈ cs, Cls K C ∧ NoAttr K C f := fun f cs h => by
  rw [List.lookup_cons] at h
  cases q : f == f0 with
  | true => rw [q] at h; cases h; rw [eq_of_beq q]; exact a
  | false => rw [q] at h; exact b f cs h
theorem mt_nil {m : Str} : ∀ C sp n ds, look ([] : List (Addr × Spec × Nat × List CV)) C = some (sp, n, ds) → SM P w K mg base k C m sp n ds := fun C sp n ds h => by cases h
theorem mt_cons {m : Str} {D : Addr} {s0 : Spec} {n0 : Nat} {d0 : List CV} {r : List (Addr × Spec × Nat × List CV)} (a : SM P w K mg base k D m s0 n0 d0) (b : ∀ C sp n ds, look r C = some (sp, n, ds) → SM P w K mg base k C m sp n ds) :
    ∀ C sp n ds, look ((D, s0, n0, d0) :: r) C = some (sp, n, ds) → SM P w K mg base k C m sp n ds := fun C sp n ds h => by
  unfold look at h
  split at h
  · rename_i q; cases h; subst q; exact a
  · exact b C sp n ds h
theorem mth_cons {m0 : Str} {j0 : Nat} {t0 : List (Addr × Spec × Nat × List CV)} {r : List ((Str × Nat) × List (Addr × Spec × Nat × List CV))} (a : ∀ C sp n ds, look t0 C = some (sp, n, ds) → SM P w K mg base k C m0 sp n ds)
    (b : ∀ m j tb, r.lookup (m, j) = some tb → ∀ C sp n ds, look tb C = some (sp, n, ds) → SM P w K mg base k C m sp n ds) : ∀ m j tb, List.lookup (m, j) (((m0, j0), t0) :: r) = some tb → ∀ C sp n ds, look tb C = some (sp, n, ds) → SM P w K mg base k C m sp n ds := fun m j tb h => by
  rw [List.lookup_cons] at h
  cases q : (m, j) == (m0, j0) with
  | true =>
    rw [q] at h; cases h
    have e := eq_of_beq q
    cases e
    exact a
  | false => rw [q] at h; exact b m j tb h
/-- THE RULE for a def with defaults -/
theorem fn_ok_D {x qual : Str} {st : Stmt} {f : Addr} {fd : FuncData} {ps : List Str} {n : Nat} {sp : Spec} {ir : CS} {g : Cfg} {dvs : List V} {kws : List (Str × V)} (fuel : Nat) (F : FunD K x qual (defArgs st) (defBody st) (defScope st) dvs kws f fd) (S : FnScope g.N ps (defScope st)) (hn : ps.length = n) (hsc : g.sc = defScope st) (hraw : g.raw = g.sc) (T : Tab P w K mg base k g)
    (hir : cSs fuel g (defBody st) = ir) (hw : ∀ cs h q E, sp cs h q E → cs.length = n → clH h → clVs h.length cs → wS ir (ret0 h q E) (st0 g.N.length cs) h) : FnOk P w K mg base CX0 (k + 1) f fd ps (simSp K n sp) := by
  refine F.ok S (fun vs H Q E h => ?_) (fun cdv A outer s H vs Q E hr h => ?_)
  · obtain ⟨cs, h, μ, q, E', hl, rel, rv, _⟩ := h
    rw [← rv.length, hl, hn]
  · obtain ⟨cs, h, μ, q, E', hl, rel, rv, hs, nE, ps⟩ := h
    refine ⟨_, ((sndS fuel).Ss g _ (defBody st) (cfg_at (X := (cxOf CX0 P w K mg base g.N qual (defScope st) f cdv A outer s H E).nox) T hr rfl S.nd hsc.symm hraw rfl (fun _ => rfl) PassesOwn.never)).nox, ?_⟩
    rw [hir]
    have P0 := post_gc rel ps
    refine ⟨st0 g.N.length cs, h, μ, ret0 h q E', rs_start rv, rel, hw cs h q E' hs hl rel.cl (by rw [← rel.len]; exact rv.cl), ?_⟩
    exact ⟨fun c' h' z μ' H' σ' e rel' rs' => P0 _ _ z _ _ _ e rel' .non, P0, fun _ _ z => z.elim, fun _ _ z => z.elim, nE⟩
theorem ln_nil : ∀ C sp n ds, look ([] : List (Addr × Spec × Nat × List CV)) C = some (sp, n, ds) → SL P w K mg base k C sp n ds := fun C sp n ds h => by cases h
theorem eo_nil : ∀ C, C ∈ ([] : List Addr) → ObjEq K C := fun C h => by cases h
theorem eo_cons {D : Addr} {r : List Addr} (a : ObjEq K D) (b : ∀ C, C ∈ r → ObjEq K C) : ∀ C, C ∈ D :: r → ObjEq K C := fun C h => by
  rcases List.mem_cons.mp h with e | e
  · rw [e]; exact a
  · exact b C e
theorem es_nil : ∀ C sp n ds, look ([] : List (Addr × Spec × Nat × List CV)) C = some (sp, n, ds) → SE P w K mg base k C sp n ds := fun C sp n ds h => by cases h
end
end G

namespace G
open PySem PySem.Spec PyProof.Rows L2
local macro_rules | `(tactic| walk_at "gs") => `(tactic| try simp -implicitDefEqProofs only [↓h_oP, ↓h_vr, ↓h_vI, ↓h_cnd, ↓h_eqR, ↓h_inR, ↓h_ap, ↓h_wLoop, ↓h_wComp, ↓h_gcd, ↓h_fldC, ↓h_stC, ↓h_stFC, ↓h_agC, ↓h_mtC, ↓h_exC, ↓h_lenC, ↓h_eqOR, ↓h_eqIR, ↓h_eqMR, ↓h_bmC, ↓h_apC, ↓x_skip, ↓x_seq, ↓x_asg, ↓x_asgT, ↓x_asgS, ↓x_asgD, ↓x_setIx, ↓x_setFld, ↓x_aug, ↓x_augFld, ↓x_ret, ↓x_ex, ↓x_ifS, ↓x_for, ↓x_brk, ↓x_bad, ↓x_badE, ↓x_cont, ↓x_ret0, ↓x_con, ↓x_var, ↓x_thaw, ↓x_cool, ↓x_maxD, ↓x_bin, ↓x_neg, ↓x_nt, ↓x_cmp, ↓x_chn, ↓x_an, ↓x_orr, ↓x_ife, ↓x_tup, ↓x_lst, ↓x_ix, ↓x_sl, ↓x_sl3, ↓x_srev, ↓x_fld, ↓x_call, ↓x_callk, ↓x_newk, ↓x_lrng, ↓x_lnrg, ↓x_lenI, ↓x_cmpO, ↓x_cmpM, ↓x_cmpI, ↓x_lenL, ↓x_lenA, ↓x_lenT, ↓x_lenO, ↓x_lenR, ↓x_lenCi, ↓x_lenCl, ↓x_lenCf, ↓x_new, ↓x_mth, ↓x_blt, ↓x_bm, ↓x_isi, ↓x_lc, ↓x_lc2, ↓x_yes, ↓x_val, ↓x_ntB, ↓x_anB, ↓x_orB, ↓x_oN, ↓x_oS, ↓x_nil, ↓x_cons, ↓x_ival, ↓x_rng1, ↓x_rng2, ↓x_rng3, ↓x_enum, ↓x_enumz, ↓x_zip, ↓x_rev, ↓x_oPs, ↓x_vrs, ↓x_vIs, ↓x_inI, ↓x_inB, ↓x_inV, ↓x_toI, ↓x_toIb, ↓x_toB, ↓x_toBb, ↓x_cT, ↓x_cF, ↓x_cN, ↓x_thwA, ↓x_thwV, ↓x_adV, ↓x_adA, ↓x_asN, ↓x_asV, ↓x_asA, ↓x_fldO, ↓x_ixN, ↓x_mthO, ↓x_bII, ↓x_bTI, ↓x_bTT, ↓x_blAA, ↓x_blAL, ↓x_bmA, ↓x_blLA, ↓x_blLL, ↓x_bmL, ↓x_blRA, ↓x_blRL, ↓x_blRR, ↓x_blAR, ↓x_blLR, ↓x_binIp, ↓x_binIs, ↓x_binIm, ↓x_binId, ↓x_binIr, ↓x_binAp, ↓x_binAs, ↓x_binAm, ↓x_binAd, ↓x_binAr, ↓x_binIw, ↓x_lt, ↓x_le, ↓x_gt, ↓x_ge, ↓x_eq, ↓x_ne, ↓x_is, ↓x_isn, ↓x_in, ↓x_nin, ↓x_eqI, ↓x_eqT, ↓x_oInt, ↓x_iInt, ↓x_oBl, ↓x_iBl, ↓x_oNon, ↓x_iNon, ↓x_oTup, ↓x_iTup, ↓x_oLst, ↓x_iLst, ↓x_oAl, ↓x_iAl, ↓x_oStr, ↓x_iStr, ↓x_ixR, ↓x_slT, ↓x_slA, ↓x_slL, ↓x_slR, ↓x_sl3R, ↓x_partI, ↓x_partN, ↓x_hdC, ↓x_srT, ↓x_srA, ↓x_srL, ↓x_srR, ↓x_len, ↓x_abs, ↓x_min, ↓x_max, ↓x_min1, ↓x_max1, ↓x_sum, ↓x_all, ↓x_any, ↓x_int, ↓x_bool, ↓x_list, ↓x_tuple, ↓x_dm, ↓x_fldR0, ↓x_fldC, ↓x_stIx0, ↓x_stC, ↓x_stFld0, ↓x_stFC, ↓x_agFld0, ↓x_agC, ↓x_mth0, ↓x_mtC, ↓x_apd0, ↓x_bm_remove, ↓x_bm_pop, ↓x_bm_insert, ↓x_bm_reverse, ↓x_bm_clear, ↓x_bmCl, ↓x_cnt, ↓x_idxm, ↓x_bmK, ↓x_ext0, ↓x_exC, ↓x_apC, Bool.true_xor, Bool.false_xor, bfRm, bfP0, bfP1, bfIn, bfRv, bfCl, sqT, sqL, sqA, lsL, lsA, lmL, lmA, lmR, lmCl, cvT, cvF, arN, arP, arK, arD, lkHit, tpTv, tpT, tpL, tpA, tpR, trN, trB, trI, trT, trL, trA, itN, itB, itI, itS, itT, itL, itA, itO, sqR, lsR, lsCl, lsCf, trR, trCl, trCf, itR, itCl, itCf, itCi, gv0, gvS, sv0, svS, uv0, uvS, svsN, svsC, uvsN, uvsC, wGn, wGt, wGsN, wGsC, ctNn, ctNt, ctNsN, ctNsC, st0E, isNN, isBN, isIN, isSN, isTN, isLN, isON, isRN, isAN, isBB, at0, ix0, at1, ix1, at2, ix2, at3, ix3, at4, ix4, at5, ix5, at6, ix6, at7, ix7, atI_map, lkRV, sz0, sz1, sz2, sz3, sz4, sz5, sz6, sz7, sz8, sz9, sz10, sz11, sz12, sz13, sz14, sz15, sz16, ↓hid_val, enum_map, zip_map, rev_map, List.map_cons, List.map_nil, List.length_cons, List.length_nil, List.length_map, List.replicate_succ, List.replicate_zero, List.cons_append, List.nil_append, List.append_nil, Option.bind_some, Option.map_some, Option.isSome_some, Option.isSome_none, reduceCtorEq, Nat.reduceAdd, Nat.reduceSub, Nat.reduceMul, ite_true, ite_false, if_true, if_false, Bool.not_true, Bool.not_false, Bool.not_not, decide_true, decide_false, Bool.false_eq_true, and_true, true_and, len_concat, set_concat, List.set_cons_zero, List.set_cons_succ, List.getD_cons_zero, List.getD_cons_succ, List.take_succ_cons, List.take_zero, List.drop_succ_cons, List.drop_zero, List.getElem?_cons_zero, List.getElem?_cons_succ, ints_map, ints_map', bls_map, or_self, false_or, or_false, true_or, or_true, Nat.zero_add, List.isEmpty_cons, List.isEmpty_nil, lk_rF_many, lk_rF_width, lk_rF_pages, lk_rF_copies, lk_rF_shuts, lk_rF_read, lk_rF_write, lk_rF_need, lk_rF_numbers, lk_rF_own_page, lk_rF_twin, lk_rF_copied, lk_rF_is_shut, lk_rF_shared, lk_pF_kept, lk_pF_holders, lk_vF_held, lk_vF_lengths, lk_vF_begin, lk_vF_steps, lk_vF_tell, lk_vF_room, lk_vF_sides, lk_vF_first, lk_vF_strides, lk_vF_cells, lk_vF_cell, lk_vF_at, lk_vF_put, lk_vF_numbers, lk_vF_nested, lk_vF_twin, lk_vF_copy_of, lk_pZ_kept, lk_pZ_holders, lk_vZ_held, lk_vZ_lengths, lk_vZ_begin, lk_vZ_steps, lk_vZ_tell, lk_vZ_room, lk_vZ_sides, lk_vZ_first, lk_vZ_strides, lk_vZ_cells, lk_vZ_cell, lk_vZ_at, lk_vZ_put, lk_vZ_numbers, lk_vZ_nested, lk_vZ_twin, lk_vZ_copy_of, pt_p_kept, pu_p_kept, pt_p_holders, pu_p_holders, pt_r_many, pu_r_many, pt_r_width, pu_r_width, pt_r_pages, pu_r_pages, pt_r_copies, pu_r_copies, pt_r_shuts, pu_r_shuts, pt_v_held, pu_v_held, pt_v_lengths, pu_v_lengths, pt_v_begin, pu_v_begin, pt_v_steps, pu_v_steps, pr_many, pr_width, pr_pages, pr_copies, pr_shuts, rF_len, List.mem_cons, List.mem_singleton, List.not_mem_nil, Nat.reduceLT, lk_v1_tell, List.set_set, List.getElem?_set_self, get_mid, get_mid2, eq_self])
local macro_rules | `(tactic| walk_at "gc") => `(tactic| first | refine cnd_t (decide_eq_true (by omega)) ?_ | refine cnd_f (decide_eq_false (by omega)) ?_)
local macro_rules | `(tactic| walk_at "gw") => `(tactic| (walk_at "gs"; repeat (walk_at "gc"; walk_at "gs")))
local macro_rules | `(tactic| walk_at "gv") => `(tactic| (walk_at "gs"; repeat ((first | refine ap_room ?_ | refine ap_sides ?_ | refine ap_first ?_ | refine ap_strides ?_); walk_at "gs")))
local macro_rules | `(tactic| walk_at "gu") => `(tactic| (walk_at "gv"; repeat (walk_at "gc"; walk_at "gv")))
local macro_rules | `(tactic| walk_at "gh") => `(tactic| try simp -implicitDefEqProofs only [↓h_oP, ↓h_vr, ↓h_vI, ↓h_cnd, ↓h_eqR, ↓h_inR, ↓h_ap, ↓h_wLoop, ↓h_wComp, ↓h_gcd, ↓h_fldC, ↓h_stC, ↓h_stFC, ↓h_agC, ↓h_mtC, ↓h_exC, ↓h_lenC, ↓h_eqOR, ↓h_eqIR, ↓h_eqMR, ↓h_bmC, ↓h_apC, ↓x_skip, ↓x_seq, ↓x_asg, ↓x_asgT, ↓x_asgS, ↓x_asgD, ↓x_setIx, ↓x_setFld, ↓x_aug, ↓x_augFld, ↓x_ret, ↓x_ex, ↓x_ifS, ↓x_for, ↓x_brk, ↓x_bad, ↓x_badE, ↓x_cont, ↓x_ret0, ↓x_con, ↓x_var, ↓x_thaw, ↓x_cool, ↓x_maxD, ↓x_bin, ↓x_neg, ↓x_nt, ↓x_cmp, ↓x_chn, ↓x_an, ↓x_orr, ↓x_ife, ↓x_tup, ↓x_lst, ↓x_ix, ↓x_sl, ↓x_sl3, ↓x_srev, ↓x_fld, ↓x_call, ↓x_callk, ↓x_newk, ↓x_lrng, ↓x_lnrg, ↓x_lenI, ↓x_cmpO, ↓x_cmpM, ↓x_cmpI, ↓x_lenL, ↓x_lenA, ↓x_lenT, ↓x_lenO, ↓x_lenR, ↓x_lenCi, ↓x_lenCl, ↓x_lenCf, ↓x_new, ↓x_mth, ↓x_blt, ↓x_bm, ↓x_isi, ↓x_lc, ↓x_lc2, ↓x_yes, ↓x_val, ↓x_ntB, ↓x_anB, ↓x_orB, ↓x_oN, ↓x_oS, ↓x_nil, ↓x_cons, ↓x_ival, ↓x_rng1, ↓x_rng2, ↓x_rng3, ↓x_enum, ↓x_enumz, ↓x_zip, ↓x_rev, ↓x_oPs, ↓x_vrs, ↓x_vIs, ↓x_inI, ↓x_inB, ↓x_inV, ↓x_toI, ↓x_toIb, ↓x_toB, ↓x_toBb, ↓x_cT, ↓x_cF, ↓x_cN, ↓x_thwA, ↓x_thwV, ↓x_adV, ↓x_adA, ↓x_asN, ↓x_asV, ↓x_asA, ↓x_fldO, ↓x_ixN, ↓x_mthO, ↓x_bII, ↓x_bTI, ↓x_bTT, ↓x_blAA, ↓x_blAL, ↓x_bmA, ↓x_blLA, ↓x_blLL, ↓x_bmL, ↓x_blRA, ↓x_blRL, ↓x_blRR, ↓x_blAR, ↓x_blLR, ↓x_binIp, ↓x_binIs, ↓x_binIm, ↓x_binId, ↓x_binIr, ↓x_binAp, ↓x_binAs, ↓x_binAm, ↓x_binAd, ↓x_binAr, ↓x_binIw, ↓x_lt, ↓x_le, ↓x_gt, ↓x_ge, ↓x_eq, ↓x_ne, ↓x_is, ↓x_isn, ↓x_in, ↓x_nin, ↓x_eqI, ↓x_eqT, ↓x_oInt, ↓x_iInt, ↓x_oBl, ↓x_iBl, ↓x_oNon, ↓x_iNon, ↓x_oTup, ↓x_iTup, ↓x_oLst, ↓x_iLst, ↓x_oAl, ↓x_iAl, ↓x_oStr, ↓x_iStr, ↓x_ixR, ↓x_slT, ↓x_slA, ↓x_slL, ↓x_slR, ↓x_sl3R, ↓x_partI, ↓x_partN, ↓x_hdC, ↓x_srT, ↓x_srA, ↓x_srL, ↓x_srR, ↓x_len, ↓x_abs, ↓x_min, ↓x_max, ↓x_min1, ↓x_max1, ↓x_sum, ↓x_all, ↓x_any, ↓x_int, ↓x_bool, ↓x_list, ↓x_tuple, ↓x_dm, ↓x_fldR0, ↓x_fldC, ↓x_stIx0, ↓x_stC, ↓x_stFld0, ↓x_stFC, ↓x_agFld0, ↓x_agC, ↓x_mth0, ↓x_mtC, ↓x_apd0, ↓x_bm_remove, ↓x_bm_pop, ↓x_bm_insert, ↓x_bm_reverse, ↓x_bm_clear, ↓x_bmCl, ↓x_cnt, ↓x_idxm, ↓x_bmK, ↓x_ext0, ↓x_exC, ↓x_apC, Bool.true_xor, Bool.false_xor, bfRm, bfP0, bfP1, bfIn, bfRv, bfCl, sqT, sqL, sqA, lsL, lsA, lmL, lmA, lmR, lmCl, cvT, cvF, arN, arP, arK, arD, lkHit, tpTv, tpT, tpL, tpA, tpR, trN, trB, trI, trT, trL, trA, itN, itB, itI, itS, itT, itL, itA, itO, sqR, lsR, lsCl, lsCf, trR, trCl, trCf, itR, itCl, itCf, itCi, gv0, gvS, sv0, svS, uv0, uvS, svsN, svsC, uvsN, uvsC, wGn, wGt, wGsN, wGsC, ctNn, ctNt, ctNsN, ctNsC, st0E, isNN, isBN, isIN, isSN, isTN, isLN, isON, isRN, isAN, isBB, at0, ix0, at1, ix1, at2, ix2, at3, ix3, at4, ix4, at5, ix5, at6, ix6, at7, ix7, atI_map, lkRV, sz0, sz1, sz2, sz3, sz4, sz5, sz6, sz7, sz8, sz9, sz10, sz11, sz12, sz13, sz14, sz15, sz16, ↓hid_val, enum_map, zip_map, rev_map, List.map_cons, List.map_nil, List.length_cons, List.length_nil, List.length_map, List.replicate_succ, List.replicate_zero, List.cons_append, List.nil_append, List.append_nil, Option.bind_some, Option.map_some, Option.isSome_some, Option.isSome_none, reduceCtorEq, Nat.reduceAdd, Nat.reduceSub, Nat.reduceMul, ite_true, ite_false, if_true, if_false, Bool.not_true, Bool.not_false, Bool.not_not, decide_true, decide_false, Bool.false_eq_true, and_true, true_and, len_concat, set_concat, List.set_cons_zero, List.set_cons_succ, List.getD_cons_zero, List.getD_cons_succ, List.take_succ_cons, List.take_zero, List.drop_succ_cons, List.drop_zero, List.getElem?_cons_zero, List.getElem?_cons_succ, ints_map, ints_map', bls_map, or_self, false_or, or_false, true_or, or_true, Nat.zero_add, List.isEmpty_cons, List.isEmpty_nil, lk_rF_many, lk_rF_width, lk_rF_pages, lk_rF_copies, lk_rF_shuts, lk_rF_read, lk_rF_write, lk_rF_need, lk_rF_numbers, lk_rF_own_page, lk_rF_twin, lk_rF_copied, lk_rF_is_shut, lk_rF_shared, lk_pF_kept, lk_pF_holders, lk_vF_held, lk_vF_lengths, lk_vF_begin, lk_vF_steps, lk_vF_tell, lk_vF_room, lk_vF_sides, lk_vF_first, lk_vF_strides, lk_vF_cells, lk_vF_cell, lk_vF_at, lk_vF_put, lk_vF_numbers, lk_vF_nested, lk_vF_twin, lk_vF_copy_of, lk_pZ_kept, lk_pZ_holders, lk_vZ_held, lk_vZ_lengths, lk_vZ_begin, lk_vZ_steps, lk_vZ_tell, lk_vZ_room, lk_vZ_sides, lk_vZ_first, lk_vZ_strides, lk_vZ_cells, lk_vZ_cell, lk_vZ_at, lk_vZ_put, lk_vZ_numbers, lk_vZ_nested, lk_vZ_twin, lk_vZ_copy_of, pt_p_kept, pu_p_kept, pt_p_holders, pu_p_holders, pt_r_many, pu_r_many, pt_r_width, pu_r_width, pt_r_pages, pu_r_pages, pt_r_copies, pu_r_copies, pt_r_shuts, pu_r_shuts, pt_v_held, pu_v_held, pt_v_lengths, pu_v_lengths, pt_v_begin, pu_v_begin, pt_v_steps, pu_v_steps, pr_many, pr_width, pr_pages, pr_copies, pr_shuts, rF_len, List.mem_cons, List.mem_singleton, List.not_mem_nil, Nat.reduceLT, lk_v1_tell, List.set_set, List.getElem?_set_self, get_mid, get_mid2, eq_self, *])
def sp_law_begun_06ad (c : Cn) : Spec := fun cs h k _ => ∃ (l a0 a1 a2 a3 a4 : Nat) (sc : List CV) (a b : Int) (W : GW) (o : Own) (ds ps : List Nat) (f : Nat → Int) (g : Nat → Nat) (cnt : Int), cs = [.ref l, hsV a0 a1 a2 a3 a4] ∧ B9 c h l a0 a1 a2 a3 a4 sc a b W o ds ps f g cnt ∧ W.rs.length = 0 ∧
  ∀ h' a b W o ds ps f g cnt, B9 c h' l a0 a1 a2 a3 a4 sc a b W o ds ps f g cnt → 0 < W.rs.length → k (.v .non) h'
/-- _law_begun: 0 _law_bag_here, 1 _law_house, 2 _law_turn, 3 _law_numbers, 4 _law_width, 5 _law_pages, 6 _law_at, 7 _law_k -/
def ir_law_begun_06ad (c : Cn) : CS := .forr (.name 2) (.rng1 (.bin .Add (.con (.int 1)) (.call sp_law_take_6e13 2 [] (.cons (.var 0) (.cons (.con (.int 2)) (.nil)))))) (.seq (.asg 3 (.thaw (.lc [7] (.name 7) (.rng1 (.call sp_law_take_6e13 2 [] (.cons (.var 0) (.cons (.con (.int 41)) (.nil))))) (.yes) (.thaw (.call sp_law_take_6e13 2 [] (.cons (.var 0) (.cons (.con (.int 3)) (.nil)))))))) (.seq (.asg 4 (.bin .Add (.con (.int 1)) (.call sp_law_take_6e13 2 [] (.cons (.var 0) (.cons (.con (.int 9)) (.nil)))))) (.seq (.asg 5 (.thaw (.lst (.nil)))) (.seq (.forr (.name 6) (.rng3 (.con (.int 0)) (.blt .len (.cons (.var 3) (.nil))) (.var 4)) (.seq (.ex (.bm .append (.var 5) (.cons (.thaw (.ix (.ix (.var 1) (.con (.int 4))) (.con (.int 0)))) (.nil)))) (.setIx (.ix (.var 1) (.con (.int 4))) (.con (.int 0)) (.bin .Add (.ix (.ix (.var 1) (.con (.int 4))) (.con (.int 0))) (.con (.int 1)))))) (.seq (.ex (.bm .append (.ix (.var 1) (.con (.int 0))) (.cons (.thaw (.newk c.Room (sp_Room_init c) 1 1 [.p 0, .p 1, .k 0] (.cons (.var 3) (.nil)) (.cons (.var 4) (.nil)))) (.nil)))) (.seq (.ex (.bm .append (.ix (.var 1) (.con (.int 1))) (.cons (.var 3) (.nil)))) (.seq (.ex (.bm .append (.ix (.var 1) (.con (.int 2))) (.cons (.var 5) (.nil)))) (.ex (.bm .append (.ix (.var 1) (.con (.int 3))) (.cons (.var 4) (.nil)))))))))))
theorem w_law_begun_06ad (c : Cn) : ∀ cs h k E, sp_law_begun_06ad c cs h k E → cs.length = 2 → clH h → clVs h.length cs → wS (ir_law_begun_06ad c) (ret0 h k E) (st0 8 cs) h := by
  rintro _ h k E ⟨l, a0, a1, a2, a3, a4, sc, a, b, W, o, ds, ps, f, g, cnt, rfl, B, W0, hk⟩ _ hc _
  unfold ir_law_begun_06ad hsV
  have sz : sizeLine = 2 ^ 24 := rfl
  walk_at "gs"
  refine B.S.draw B.bok (by decide) (by decide) fun h1 a' b1 w1 S1 hb1 _ w10 w11 => ?_
  walk_at "gs"
  refine ⟨⟨by omega, by omega⟩, ?_⟩
  refine loop_map (fun d σ h' => ∃ a b W o ds ps f g cnt v2 v3 v4 v5 v6, B9 c h' l a0 a1 a2 a3 a4 sc a b W o ds ps f g cnt ∧ W.rs.length = d.length ∧ σ = [some (.ref l), some (CV.lst [.ref a0, .ref a1, .ref a2, .ref a3, .ref a4]), v2, v3, v4, v5, v6, none]) ⟨a', b1, W, o, ds, ps, f, g, cnt, _, _, _, _, _, { B with S := S1, bok := hb1 }, W0, rfl⟩ (fun _ _ _ _ _ _ => trivial) ?_ ?_
  · clear B S1 hb1 W0
    rintro d n r _ h2 e ⟨a, b, W, o, ds, ps, f, g, cnt, v2, v3, v4, v5, v6, B, W0, rfl⟩
    have hdl : d.length < 2 := by have := congrArg List.length e; simp at this; omega
    walk_at "gs"
    refine B.S.draw B.bok (by decide) (by decide) fun h3 a3' b3 m S3 hb3 _ m0 m1 => ?_
    walk_at "gs"
    refine ⟨⟨by omega, by omega⟩, by simp; omega, comp_map (f := fun k : Nat => CV.int (k : Int)) (fun d acc h' => ∃ a b ns, B9 c h' l a0 a1 a2 a3 a4 sc a b W o ds ps f g cnt ∧ acc = ns.map CV.int ∧ ns.length = d.length) ⟨_, _, [], { B with S := S3, bok := hb3 }, rfl, rfl⟩ (fun _ _ _ _ _ _ => trivial) ?_ ?_⟩
    · clear B S3 hb3
      rintro d q r _ h3 e ⟨a, b, ns, B, rfl, hns⟩
      walk_at "gs"
      refine B.S.draw B.bok (by decide) (by decide) fun h4 a4' b4 w4 S4 hb4 _ w40 w41 => ?_
      walk_at "gs"
      exact ⟨_, _, ns ++ [w4], { B with S := S4, bok := hb4 }, by simp, by simp [hns]⟩
    clear B S3 hb3
    rintro _ h3 ⟨a, b, ns, B, rfl, hns⟩
    have hnl : ns.length ≤ 40 := by simp at hns; omega
    walk_at "gs"
    have S4 := (B.S.push (.lst (ns.map .int))).perm (List.Perm.swap _ _ _)
    have hdn : h3.length < (h3 ++ [CO.lst (ns.map CV.int)]).length := by simp
    generalize hd1 : h3.length = d1 at S4 hdn
    generalize h3 ++ [CO.lst (ns.map CV.int)] = h4 at S4 hdn ⊢
    refine S4.draw B.bok (by decide) (by decide) fun h5 a5 b5 w S5 hb5 e5 w0 w1 => ?_
    obtain ⟨wd, hw⟩ : ∃ wd : Nat, 1 + w = wd := ⟨(1 + w).toNat, by omega⟩
    walk_at "gs"
    rw [hw]
    have S6 := S5.push (.lst [])
    have lpp : h5.length < (h5 ++ [CO.lst []]).length := by simp
    generalize hpp : h5.length = pp at S6 lpp
    generalize h5 ++ [CO.lst []] = h6 at S6 lpp ⊢
    rw [S6.get (a := d1) (x := .lst (ns.map .int)) (by simp)]
    walk_at "gs"
    refine ⟨⟨by omega, by omega⟩, ?_⟩
    have ek : ((ns.length : Int) - 0 + ((wd : Int) - 1)) / wd = ((chunk wd ns).length : Nat) := by
      rw [chunk_len]
      have : ((ns.length : Int) - 0 + ((wd : Int) - 1)) = ((ns.length + (wd - 1) : Nat) : Int) := by omega
      rw [this]; rfl
    rw [ek, Int.toNat_natCast]
    obtain ⟨kk, hkk⟩ : ∃ kk, kk = (chunk wd ns).length := ⟨_, rfl⟩
    rw [← hkk]
    have kle : kk ≤ 48 := by
      rw [hkk, chunk_len]
      exact Nat.le_trans (Nat.div_le_self _ _) (by omega)
    have S7 : St c h6 W o ((pp, .lst (((List.range ([] : List Nat).length).map fun i : Nat => cnt + (i : Int)).map .int)) :: (l, .lst [.int a5, .int b5]) :: (d1, .lst (ns.map .int)) :: (0, .fro sc) :: (a0, .lst W.refs) :: (a1, .lst (ds.map .ref)) :: (a2, .lst (ps.map .ref)) :: (a3, .lst (W.rs.map fun R => CV.int R.w)) :: (a4, .lst [.int (cnt + (([] : List Nat).length : Int))]) :: (lstC ps (W.nmT f) ++ lstC ds W.tab)) := by
      have : cnt + (([] : List Nat).length : Int) = cnt := by simp
      rw [this]; exact S6
    refine loop_map (ns := List.range kk) (fun d σ h' => ∃ v6, St c h' W o ((pp, .lst (((List.range d.length).map fun i : Nat => cnt + (i : Int)).map .int)) :: (l, .lst [.int a5, .int b5]) :: (d1, .lst (ns.map .int)) :: (0, .fro sc) :: (a0, .lst W.refs) :: (a1, .lst (ds.map .ref)) :: (a2, .lst (ps.map .ref)) :: (a3, .lst (W.rs.map fun R => CV.int R.w)) :: (a4, .lst [.int (cnt + (d.length : Int))]) :: (lstC ps (W.nmT f) ++ lstC ds W.tab)) ∧ h'.length = h6.length ∧ σ = [some (.ref l), some (CV.lst [.ref a0, .ref a1, .ref a2, .ref a3, .ref a4]), some (.int n), some (.ref d1), some (.int wd), some (.ref pp), v6, none]) ⟨_, S7, rfl, rfl⟩ (fun _ _ _ _ _ _ => trivial) ?_ ?_
    · clear S7 S6 S5 S4
      rintro d2 q r2 _ h7 e2 ⟨v6, S7, l7, rfl⟩
      have hl2 : d2.length < kk := by have := congrArg List.length e2; simp at this; omega
      walk_at "gs"
      rw [S7.get (a := a4) (x := .lst [.int (cnt + (d2.length : Int))]) (by simp)]
      walk_at "gs"
      rw [S7.get (a := pp) (x := .lst (((List.range d2.length).map fun i : Nat => cnt + (i : Int)).map .int)) (by simp)]
      walk_at "gs"
      refine ⟨by simp; omega, ?_⟩
      have S8 := S7.put (L := []) (.lst (((List.range (d2 ++ [q]).length).map fun i : Nat => cnt + (i : Int)).map .int))
      have ex : ((List.range d2.length).map fun i : Nat => cnt + (i : Int)).map CV.int ++ [CV.int (cnt + (d2.length : Int))] = ((List.range (d2 ++ [q]).length).map fun i : Nat => cnt + (i : Int)).map CV.int := by
        rw [List.length_append, List.length_singleton, List.range_succ]; simp
      rw [ex]
      have l8 : (h7.set pp (CO.lst (((List.range (d2 ++ [q]).length).map fun i : Nat => cnt + (i : Int)).map CV.int))).length = h6.length := by rw [List.length_set]; exact l7
      generalize h7.set pp (CO.lst (((List.range (d2 ++ [q]).length).map fun i : Nat => cnt + (i : Int)).map CV.int)) = h8 at S8 l8 ⊢
      rw [S8.get (a := a4) (x := .lst [.int (cnt + (d2.length : Int))]) (by simp)]
      walk_at "gs"
      rw [S8.get (a := a4) (x := .lst [.int (cnt + (d2.length : Int))]) (by simp)]
      walk_at "gs"
      have S9 := S8.put (L := [_, _, _, _, _, _, _, _]) (a := a4) (.lst [.int (cnt + ((d2 ++ [q]).length : Int))])
      have ey : cnt + (d2.length : Int) + 1 = cnt + ((d2 ++ [q]).length : Int) := by simp; omega
      rw [ey]
      exact ⟨_, S9, by rw [List.length_set]; exact l8, rfl⟩
    clear S7 S6 S5 S4
    rintro _ h7 ⟨v6, S7, l7, rfl⟩
    rw [List.length_range] at S7
    walk_at "gs"
    rw [S7.get (a := a0) (x := .lst W.refs) (by simp)]
    have hnd := S7.get (a := d1) (x := .lst (ns.map .int)) (by simp)
    have NN := nm_new S7.w B.N ns wd
    have nt := new_tab (ns := ns) (wd := wd) S7.w (by omega)
    have dl := B.dl
    have pl := B.pl
    rw [← hkk] at NN
    obtain ⟨f', g', N', T'⟩ := NN
    refine ⟨rfl, S7.new (by show lsOf (.v (.ref d1)) h7 = _; exact ls_ref hnd) (by omega) (by omega) (by omega) (by omega) fun h8 o8 S8 l8 => ⟨rfl, ?_⟩⟩
    have er : (W.new h7.length ns wd).refs = W.refs ++ [.ref h7.length] := by
      show (W.rs ++ [_]).map _ = _
      rw [List.map_append]; rfl
    have ew2 : (W.new h7.length ns wd).rs.map (fun R => CV.int R.w) = (W.rs.map fun R => CV.int R.w) ++ [.int wd] := by
      show (W.rs ++ [_]).map _ = _
      rw [List.map_append]; rfl
    have em : ∀ (xs : List Nat) (x : Nat), (xs ++ [x]).map CV.ref = xs.map CV.ref ++ [.ref x] := fun xs x => by simp
    have ok' : ∀ T ∈ (W.new h7.length ns wd).rs, T.sh = 0 ∧ T.m ≤ 40 := by
      intro T hT
      rcases List.mem_append.mp (show T ∈ W.rs ++ [_] from hT) with m | m
      · exact B.ok T m
      · rw [List.mem_singleton.mp m]; exact ⟨rfl, hnl⟩
    have rl' : (W.new h7.length ns wd).rs.length = W.rs.length + 1 := by
      show (W.rs ++ [_]).length = _
      simp
    generalize W.new h7.length ns wd = V at *
    walk_at "gs"
    rw [S8.get (a := a0) (x := .lst W.refs) (by simp)]
    walk_at "gs"
    refine ⟨by simp [GW.refs]; omega, ?_⟩
    have S9 := S8.put (L := [_, _, _, _]) (a := a0) (.lst V.refs)
    rw [← er]
    generalize h8.set a0 (CO.lst V.refs) = h9 at S9 ⊢
    rw [S9.get (a := a1) (x := .lst (ds.map .ref)) (by simp)]
    refine ⟨rfl, ?_⟩
    walk_at "gs"
    refine ⟨by omega, ?_⟩
    have S10 := S9.put (L := [_, _, _, _, _]) (a := a1) (.lst ((ds ++ [d1]).map .ref))
    rw [← em]
    generalize h9.set a1 (CO.lst ((ds ++ [d1]).map CV.ref)) = h10 at S10 ⊢
    rw [S10.get (a := a2) (x := .lst (ps.map .ref)) (by simp)]
    refine ⟨rfl, ?_⟩
    walk_at "gs"
    refine ⟨by omega, ?_⟩
    have S11 := S10.put (L := [_, _, _, _, _, _]) (a := a2) (.lst ((ps ++ [pp]).map .ref))
    rw [← em]
    generalize h10.set a2 (CO.lst ((ps ++ [pp]).map CV.ref)) = h11 at S11 ⊢
    rw [S11.get (a := a3) (x := .lst (W.rs.map fun R => CV.int R.w)) (by simp)]
    refine ⟨rfl, ?_⟩
    walk_at "gs"
    refine ⟨by first | omega | (simp; omega), ?_⟩
    have S12 := S11.put (L := [_, _, _, _, _, _, _]) (a := a3) (.lst (V.rs.map fun R => CV.int R.w))
    rw [← ew2]
    generalize h11.set a3 (CO.lst (V.rs.map fun R => CV.int R.w)) = h12 at S12 ⊢
    have S13 := S12.perm (List.Perm.cons _ (List.Perm.swap _ _ _))
    have S14 := S13.perm (perm_add [_, _, _, _, _, _, _] (lstC ps (W.nmT f)) (lstC ds W.tab) _ _)
    rw [← lstC_snoc (by rw [nmT_len]; omega), ← lstC_snoc (by rw [tab_len]; omega), ← T', ← nt] at S14
    exact ⟨a5, b5, V, o8, _, _, f', g', _, _, _, _, _, _, ⟨S14, hb5, by simp; omega, by simp; omega, N', by omega, ok'⟩, by simp; omega, rfl⟩
  · rintro _ h2 ⟨a, b, W, o, ds, ps, f, g, cnt, v2, v3, v4, v5, v6, B, W0, rfl⟩
    exact gc_same (hk _ _ _ _ _ _ _ _ _ _ B (by rw [W0]; simp; omega))
/-- law: 0 _law_script, 1 _law_k, 2 _law_bag_here, 3 _law_house, 4 _law_turn, 5 _law_which, 6 _law_way, 7 _law_at, 8 _law_cell_here, 9 _law_room -/
def ir_law_eb36 (c : Cn) : CS := .seq (.forr (.name 1) (.rng1 (.blt .max (.cons (.con (.int 1)) (.cons (.blt .min (.cons (.con (.int 2)) (.cons (.blt .len (.cons (.var 0) (.nil))) (.nil)))) (.nil))))) (.seq (.asg 2 (.thaw (.call sp_law_bag_c7a2 2 [] (.cons (.var 0) (.cons (.var 1) (.nil)))))) (.seq (.asg 3 (.lst (.cons (.thaw (.lst (.nil))) (.cons (.thaw (.lst (.nil))) (.cons (.thaw (.lst (.nil))) (.cons (.thaw (.lst (.nil))) (.cons (.thaw (.lst (.cons (.thaw (.con (.int 0))) (.nil)))) (.nil)))))))) (.seq (.ex (.call (sp_law_begun_06ad c) 2 [] (.cons (.var 2) (.cons (.var 3) (.nil))))) (.seq (.forr (.name 4) (.rng1 (.call sp_law_take_6e13 2 [] (.cons (.var 2) (.cons (.con (.int 25)) (.nil))))) (.seq (.asg 5 (.call sp_law_take_6e13 2 [] (.cons (.var 2) (.cons (.blt .len (.cons (.ix (.var 3) (.con (.int 0))) (.nil))) (.nil))))) (.seq (.asg 6 (.call sp_law_take_6e13 2 [] (.cons (.var 2) (.cons (.con (.int 3)) (.nil))))) (.seq (.asg 7 (.call sp_law_take_6e13 2 [] (.cons (.var 2) (.cons (.con (.int 600)) (.nil))))) (.seq (.ife (.an (.val (.cmp .Eq (.var 6) (.con (.int 0)))) (.val (.cmp .Lt (.blt .len (.cons (.ix (.var 3) (.con (.int 0))) (.nil))) (.con (.int 7))))) (.ex (.call (sp_law_twin_5e11 c) 2 [] (.cons (.var 3) (.cons (.var 5) (.nil))))) (.ife (.val (.cmp .NotEq (.ix (.ix (.var 3) (.con (.int 1))) (.var 5)) (.lst (.nil)))) (.seq (.asg 8 (.bin .Mod (.var 7) (.blt .len (.cons (.ix (.ix (.var 3) (.con (.int 1))) (.var 5)) (.nil))))) (.ex (.call (sp_law_write_4795 c) 4 [] (.cons (.var 3) (.cons (.var 5) (.cons (.var 8) (.cons (.ix (.lst (.cons (.thaw (.ix (.ix (.ix (.var 3) (.con (.int 1))) (.var 5)) (.var 8))) (.cons (.thaw (.bin .Mod (.var 7) (.con (.int 5)))) (.nil)))) (.blt .int (.cons (.cmp .Eq (.var 6) (.con (.int 2))) (.nil)))) (.nil)))))))) (.skip))) (.ife (.nt (.val (.call (sp_law_shared_good c) 1 [] (.cons (.var 3) (.nil))))) (.ret (.con (.bl false))) (.skip))))))) (.ife (.val (.cmp .NotEq (.lc [9] (.name 9) (.val (.ix (.var 3) (.con (.int 0)))) (.yes) (.thaw (.mth [(c.Room, (sp_Room_numbers c), 1, [])] "numbers" (.var 9) (.nil)))) (.ix (.var 3) (.con (.int 1))))) (.ret (.con (.bl false))) (.skip))))))) (.ret (.con (.bl true)))
theorem w_law_eb36 (c : Cn) : ∀ cs h k E, spLaw cs h k E → cs.length = 1 → clH h → clVs h.length cs → wS (ir_law_eb36 c) (ret0 h k E) (st0 10 cs) h := by
  rintro _ _ k E ⟨ns, rfl, rfl, hn, hk⟩ _ hc _
  unfold ir_law_eb36
  have sz : sizeLine = 2 ^ 24 := rfl
  walk_at "gs"
  have hb : ∀ x : Int, (if (if x < 2 then x else 2) > 1 then (if x < 2 then x else 2) else 1) ≤ 2 ∧ 1 ≤ (if (if x < 2 then x else 2) > 1 then (if x < 2 then x else 2) else 1) := fun x => by split <;> split <;> omega
  have hb := hb ns.length
  refine ⟨⟨by omega, by omega⟩, ?_⟩
  refine loop_map (fun d σ h' => h'[0]? = some (.fro (ns.map .int)) ∧ ∃ v1 v2 v3 v4 v5 v6 v7 v8, σ = [some (.ref 0), v1, v2, v3, v4, v5, v6, v7, v8, none]) ⟨rfl, _, _, _, _, _, _, _, _, rfl⟩ (fun _ _ _ _ _ _ => trivial) ?_ ?_
  · rintro d n r _ h' e ⟨h0, v1, v2, v3, v4, v5, v6, v7, v8, rfl⟩
    walk_at "gs"
    refine ⟨0, ns, n, rfl, h0, hn, by omega, fun a b hb1 => ?_⟩
    walk_at "gs"
    have lt0 : 0 < h'.length := (List.getElem?_eq_some_iff.mp h0).1
    have S0 : St c h' GW.nil (fun _ => none) [(0, .fro (ns.map .int))] := ⟨Wd.nil c h', ⟨by simp, fun x m => by rw [List.mem_singleton.mp m]; exact h0, fun _ _ => rfl⟩⟩
    have S6 := (((((S0.push (.lst [.int a, .int b])).push (.lst [])).push (.lst [])).push (.lst [])).push (.lst [])).push (.lst [.int 0])
    have e1 : (h' ++ [CO.lst [CV.int a, CV.int b]]).length = h'.length + 1 := by simp
    have e2 : (h' ++ [CO.lst [CV.int a, CV.int b]] ++ [CO.lst []]).length = h'.length + 2 := by simp
    have e3 : (h' ++ [CO.lst [CV.int a, CV.int b]] ++ [CO.lst []] ++ [CO.lst []]).length = h'.length + 3 := by simp
    have e4 : (h' ++ [CO.lst [CV.int a, CV.int b]] ++ [CO.lst []] ++ [CO.lst []] ++ [CO.lst []]).length = h'.length + 4 := by simp
    have e5 : (h' ++ [CO.lst [CV.int a, CV.int b]] ++ [CO.lst []] ++ [CO.lst []] ++ [CO.lst []] ++ [CO.lst []]).length = h'.length + 5 := by simp
    rw [e1, e2, e3, e4, e5] at S6 ⊢
    generalize h' ++ [CO.lst [CV.int a, CV.int b]] ++ [CO.lst []] ++ [CO.lst []] ++ [CO.lst []] ++ [CO.lst []] ++ [CO.lst [CV.int 0]] = h1 at S6 ⊢
    obtain ⟨l, hl⟩ : ∃ l, l = h'.length := ⟨_, rfl⟩
    rw [← hl] at S6 lt0 ⊢
    have S7 := S6.sub (M := [(l, .lst [.int a, .int b]), (0, .fro (ns.map .int)), (l + 1, .lst []), (l + 2, .lst []), (l + 3, .lst []), (l + 4, .lst []), (l + 5, .lst [.int 0])]) (by simp; omega) (by simp)
    have B0 : B9 c h1 l (l + 1) (l + 2) (l + 3) (l + 4) (l + 5) (ns.map .int) a b GW.nil (fun _ => none) [] [] (fun _ => 0) (fun _ => 0) 0 := ⟨S7, hb1, rfl, rfl, nm_nil, by decide, fun R m => (by cases m)⟩
    generalize l + 1 = a0, l + 2 = a1, l + 3 = a2, l + 4 = a3, l + 5 = a4 at B0 ⊢
    clear S7 S6 S0 e1 e2 e3 e4 e5 lt0 h0 hl
    refine ⟨l, a0, a1, a2, a3, a4, _, a, b, _, _, _, _, _, _, _, rfl, B0, rfl, fun h2 a2' b2 W o ds ps f g cnt B n0 => ?_⟩
    clear B0
    walk_at "gs"
    refine B.S.draw B.bok (by decide) (by decide) fun h3 a3' b3 t S3 hb3 _ t0 t1 => ?_
    walk_at "gs"
    refine ⟨⟨by omega, by omega⟩, ?_⟩
    refine loop_map (fun d σ h' => ∃ a b W o ds ps f g cnt v4 v5 v6 v7 v8, B9 c h' l a0 a1 a2 a3 a4 (ns.map .int) a b W o ds ps f g cnt ∧ 0 < W.rs.length ∧ σ = [some (.ref 0), some (.int n), some (.ref l), some (CV.lst [.ref a0, .ref a1, .ref a2, .ref a3, .ref a4]), v4, v5, v6, v7, v8, none]) ⟨_, _, _, _, _, _, _, _, _, _, _, _, _, _, { B with S := S3, bok := hb3 }, n0, rfl⟩ (fun _ _ _ _ _ _ => trivial) ?_ ?_
    · clear B S3 hb3 n0
      rintro d2 q r2 _ h2 e2 ⟨a, b, W, o, ds, ps, f, g, cnt, v4, v5, v6, v7, v8, B, n0, rfl⟩
      walk_at "gs"
      rw [B.S.get (a := a0) (x := .lst W.refs) (by simp)]
      walk_at "gs"
      have few := B.few
      have dl := B.dl
      have pl := B.pl
      refine B.S.draw B.bok (by simp [GW.refs]; omega) (by simp [GW.refs]; omega) fun h3 a3' b3 w3 S3 hb3 _ w30 w31 => ?_
      walk_at "gs"
      refine S3.draw hb3 (by decide) (by decide) fun h4 a4' b4 w4 S4 hb4 _ w40 w41 => ?_
      walk_at "gs"
      refine S4.draw hb4 (by decide) (by decide) fun h5 a5' b5 w5 S5 hb5 _ w50 w51 => ?_
      have B5 : B9 c h5 l a0 a1 a2 a3 a4 (ns.map .int) a5' b5 W o ds ps f g cnt := { B with S := S5, bok := hb5 }
      have B5' := B5
      clear B S3 S4 S5 hb3 hb4 hb5
      obtain ⟨i, hi⟩ : ∃ i : Nat, w3 = i := ⟨w3.toNat, by omega⟩
      subst hi
      have li : i < W.rs.length := by simp [GW.refs] at w31; omega
      have hR := List.getElem?_eq_getElem li
      generalize W.rs[i] = R at hR
      obtain ⟨di, hd⟩ : ∃ d, ds[i]? = some d := ⟨_, List.getElem?_eq_getElem (by omega)⟩
      have ed : Option.map CV.ref (atI ds (i : Int)) = some (.ref di) := by rw [atI_nat hd]; rfl
      have hdi := B5.nu hd hR
      have rml := (B5.S.w.rm i R hR).ml
      have okR := B5.ok R (List.mem_of_getElem? hR)
      walk_at "gs"
      refine cnd_dec (fun z => ?_) (fun z => ?_)
      walk_at "gs"
      rw [B5.S.get (a := a0) (x := .lst W.refs) (by simp)]
      walk_at "gs"
      refine cnd_dec (fun y => ?_) (fun y => ?_)
      · walk_at "gs"
        refine ⟨l, a0, a1, a2, a3, a4, _, _, _, W, o, ds, ps, f, g, cnt, i, rfl, B5, li, by simp [GW.refs] at y; omega, fun h6 W o ds ps f g cnt B n0 => ?_⟩
        walk_at "gs"
        refine ⟨l, a0, a1, a2, a3, a4, _, _, _, W, o, ds, ps, f, g, cnt, rfl, B, fun h7 B => ?_⟩
        walk_at "gs"
        exact ⟨_, _, W, o, ds, ps, f, g, cnt, _, _, _, _, _, B, n0, rfl⟩
      all_goals
        walk_at "gs"
        rw [B5.S.get (a := a1) (x := .lst (ds.map .ref)) (by simp)]
        walk_at "gs"
        refine oP_mk ed ?_
        walk_at "gs"
        refine eqL_int (a := W.nums R) (b := []) (ls_ref hdi) rfl ?_
        walk_at "gs"
        refine cnd_dec (fun x => ?_) (fun x => ?_)
        · walk_at "gs"
          refine ⟨l, a0, a1, a2, a3, a4, _, _, _, W, o, ds, ps, f, g, cnt, rfl, B5, fun h7 B => ?_⟩
          walk_at "gs"
          exact ⟨_, _, W, o, ds, ps, f, g, cnt, _, _, _, _, _, B, n0, rfl⟩
        have nsl : 0 < (W.nums R).length := List.length_pos_iff.mpr x
        obtain ⟨cell, hcell⟩ : ∃ cell : Nat, w5 % ((W.nums R).length : Int) = cell := ⟨(w5 % ((W.nums R).length : Int)).toNat, (Int.toNat_of_nonneg (Int.emod_nonneg _ (by omega))).symm⟩
        have lcell : cell < (W.nums R).length := by have := Int.emod_lt_of_pos w5 (show (0 : Int) < (W.nums R).length by omega); omega
        obtain ⟨vc, ec⟩ : ∃ v, ((W.nums R)[cell]? : Option Int) = some v := ⟨_, List.getElem?_eq_getElem lcell⟩
        have ec' : Option.map CV.int (atI (W.nums R) (cell : Int)) = some (.int vc) := by rw [atI_nat ec]; rfl
        have m40 := okR.2
        walk_at "gs"
        rw [B5.S.get (a := a1) (x := .lst (ds.map .ref)) (by simp)]
        walk_at "gs"
        refine oP_mk ed ?_
        walk_at "gs"
        rw [hdi]
        walk_at "gs"
        refine ⟨by omega, ?_⟩
        rw [hcell]
        walk_at "gs"
        rw [B5.S.get (a := a1) (x := .lst (ds.map .ref)) (by simp)]
        walk_at "gs"
        refine oP_mk ed ?_
        walk_at "gs"
        rw [hdi]
        walk_at "gs"
        rw [hcell]
        refine oP_mk ec' ?_
        walk_at "gs"
        obtain ⟨v, hv⟩ : ∃ v : Int, atI [CV.int vc, CV.int (w5 % 5)] (if decide (w4 = 2) = true then 1 else 0) = some (.int v) := by
          by_cases y : w4 = 2
          · rw [decide_eq_true y]; exact ⟨w5 % 5, rfl⟩
          · rw [decide_eq_false y]; exact ⟨vc, rfl⟩
        refine ⟨by decide, oP_mk hv ?_⟩
        walk_at "gs"
        refine ⟨l, a0, a1, a2, a3, a4, _, _, _, W, o, ds, ps, f, g, cnt, i, R, cell, v, rfl, B5, hR, by omega, fun h6 W o ds ps f g cnt B n0 => ?_⟩
        walk_at "gs"
        refine ⟨l, a0, a1, a2, a3, a4, _, _, _, W, o, ds, ps, f, g, cnt, rfl, B, fun h7 B => ?_⟩
        walk_at "gs"
        exact ⟨_, _, W, o, ds, ps, f, g, cnt, _, _, _, _, _, B, n0, rfl⟩
    · clear B S3 hb3 n0
      rintro _ h2 ⟨a, b, W, o, ds, ps, f, g, cnt, v4, v5, v6, v7, v8, B, n0, rfl⟩
      walk_at "gs"
      rw [B.S.get (a := a0) (x := .lst W.refs) (by simp)]
      have few := B.few
      have dl := B.dl
      walk_at "gs"
      unfold GW.refs
      refine ⟨by rw [List.length_map]; omega, comp_map (f := fun R : RG => CV.ref R.r) (ns := W.rs) (fun d acc h' => B9 c h' l a0 a1 a2 a3 a4 (ns.map .int) a b W o ds ps f g cnt ∧ ∃ xs : List Nat, acc = xs.map .ref ∧ xs.length = d.length ∧ ∀ (j x : Nat) (ns : List Int), xs[j]? = some x → W.tab[j]? = some ns → h'[x]? = some (.lst (ns.map .int))) ⟨B, [], rfl, rfl, fun j x ns hx => by simp at hx⟩ ?_ ?_ ?_⟩
      · rintro d r acc h' _ ⟨B', _⟩
        show h'[a0]? = h2[a0]?
        rw [B'.S.get (a := a0) (x := .lst W.refs) (by simp), B.S.get (a := a0) (x := .lst W.refs) (by simp)]
      · rintro d3 R r3 _ h' e3 ⟨B', xs, rfl, xl, hx⟩
        have hi : W.rs[d3.length]? = some R := by rw [e3]; simp
        walk_at "gs"
        rw [B'.S.ins hi]
        walk_at "gs"
        refine ⟨_, _, rfl, B'.S.rm hi, ?_⟩
        walk_at "gs"
        refine ⟨{ B' with S := B'.S.app _ }, xs ++ [h'.length], by simp, by simp [xl], fun j x ns hj ht => ?_⟩
        rw [List.getElem?_append] at hj
        split at hj
        · exact get_app (hx j x ns hj ht)
        · have ej : j = d3.length := by have := (List.getElem?_eq_some_iff.mp hj).1; simp at this; omega
          subst ej
          rw [xl, Nat.sub_self] at hj
          cases hj
          rw [tab_get hi] at ht; cases ht
          exact len_concat
      · rintro _ h' ⟨B', xs, rfl, xl, hx⟩
        walk_at "gs"
        refine eqL_lists rfl (ls_ref (B'.S.get (a := a1) (x := .lst (ds.map .ref)) (by simp))) (isLs_refs (by rw [tab_len]; exact xl) hx) (isLs_refs (by rw [tab_len]; exact dl) fun j x ns hj ht => B'.S.get (by have := lstC_at hj ht; simp only [List.mem_cons, List.mem_append]; exact .inr (.inr (.inr (.inr (.inr (.inr (.inr (.inr this))))))))) ?_
        rw [decide_eq_true rfl]
        walk_at "gs"
        exact ⟨B'.S.get (by simp), _, _, _, _, _, _, _, _, rfl⟩
  · rintro _ h' ⟨h0, v1, v2, v3, v4, v5, v6, v7, v8, rfl⟩
    walk_at "gs"
    exact gc_same (hk _)
end G

namespace K09
open PySem PySem.Spec PyProof.Rows L2 G
def top (i : Nat) : Stmt := PySem.Challenge.pw_viewgrid_k09_pages_shared.main.body.getD i (.Pass ⟨0, 0, 0, 0⟩)
abbrev s_law_take_6e13 : Stmt := top 13
def g_law_take_6e13 (c : Cn) : Cfg := ⟨["_law_bag_here", "_law_many", "_law_digit"], defScope s_law_take_6e13, defScope s_law_take_6e13, [], [], [], [], [], ["_law_bag_here"], ["pages", "kept"], [], [], [], [], false, ["View"], []⟩
theorem sc_law_take_6e13 : FnScope ["_law_bag_here", "_law_many", "_law_digit"] ["_law_bag_here", "_law_many"] (defScope s_law_take_6e13) := ⟨rfl, rfl, rfl, by decide +kernel, rfl, by decide +kernel, by decide +kernel⟩
theorem ir_ok_law_take_6e13 (c : Cn) : cSs 60 (g_law_take_6e13 c) (defBody s_law_take_6e13) = ir_law_take_6e13 := rfl
abbrev s_law_whole_585e : Stmt := top 14
def g_law_whole_585e (c : Cn) : Cfg := ⟨["_law_thing"], defScope s_law_whole_585e, defScope s_law_whole_585e, [], ["isinstance", "bool", "int"], [], [], [], [], ["pages", "kept"], [], [], [], [], false, ["View"], []⟩
theorem sc_law_whole_585e : FnScope ["_law_thing"] ["_law_thing"] (defScope s_law_whole_585e) := ⟨rfl, rfl, rfl, by decide +kernel, rfl, by decide +kernel, by decide +kernel⟩
theorem ir_ok_law_whole_585e (c : Cn) : cSs 60 (g_law_whole_585e c) (defBody s_law_whole_585e) = ir_law_whole_585e := rfl
abbrev s_Room_shared : Stmt := inClass (top 9) 8
def g_Room_shared (c : Cn) : Cfg := ⟨["self", "other", "at", "one", "two"], defScope s_Room_shared, defScope s_Room_shared, [], ["enumerate", "zip"], [], [("pages", [c.Room])], [], [], ["pages", "kept"], [], [], [c.Page], [], false, ["View"], []⟩
theorem sc_Room_shared : FnScope ["self", "other", "at", "one", "two"] ["self", "other"] (defScope s_Room_shared) := ⟨rfl, rfl, rfl, by decide +kernel, rfl, by decide +kernel, by decide +kernel⟩
theorem ir_ok_Room_shared (c : Cn) : cSs 60 (g_Room_shared c) (defBody s_Room_shared) = ir_Room_shared c := rfl
abbrev s_law_shared_good : Stmt := top 18
def g_law_shared_good (a_law_whole_585e : Addr) (c : Cn) : Cfg := ⟨["_law_house", "_law_one", "_law_ones", "_law_other", "_law_others", "_law_due", "_law_found", "_law_at", "_law_name"], defScope s_law_shared_good, defScope s_law_shared_good, [("_law_whole", .fn a_law_whole_585e sp_law_whole_585e 1 [(1, [])] [false] [])], ["zip", "all", "isinstance", "list", "enumerate"], [], [], [(("shared", 1), [(c.Room, (sp_Room_shared c), 2, [])])], ["_law_found"], ["pages", "kept"], [], [], [], [], false, ["View"], []⟩
theorem sc_law_shared_good : FnScope ["_law_house", "_law_one", "_law_ones", "_law_other", "_law_others", "_law_due", "_law_found", "_law_at", "_law_name"] ["_law_house"] (defScope s_law_shared_good) := ⟨rfl, rfl, rfl, by decide +kernel, rfl, by decide +kernel, by decide +kernel⟩
theorem ir_ok_law_shared_good (a_law_whole_585e : Addr) (c : Cn) : cSs 60 (g_law_shared_good a_law_whole_585e c) (defBody s_law_shared_good) = ir_law_shared_good c := rfl
abbrev s_Page_init : Stmt := inClass (top 8) 0
def g_Page_init (c : Cn) : Cfg := ⟨["self", "kept"], defScope s_Page_init, defScope s_Page_init, [], [], [], [("holders", [c.Page]), ("kept", [c.Page])], [], ["kept"], ["pages", "kept"], [], [], [], [], false, ["View"], []⟩
theorem sc_Page_init : FnScope ["self", "kept"] ["self", "kept"] (defScope s_Page_init) := ⟨rfl, rfl, rfl, by decide +kernel, rfl, by decide +kernel, by decide +kernel⟩
theorem ir_ok_Page_init (c : Cn) : cSs 60 (g_Page_init c) (defBody s_Page_init) = ir_Page_init c := rfl
abbrev s_Room_init : Stmt := inClass (top 9) 0
def g_Room_init (c : Cn) : Cfg := ⟨["self", "numbers", "page", "at"], defScope s_Room_init, defScope s_Room_init, [("Page", .cls c.Page (sp_Page_init c) 2 [(1, [])] [true] [])], ["range", "len", "list"], [], [("shuts", [c.Room]), ("copies", [c.Room]), ("pages", [c.Room]), ("width", [c.Room]), ("many", [c.Room])], [], [], ["pages", "kept"], [], [], [], [], false, ["View"], []⟩
theorem sc_Room_init : FnScope ["self", "numbers", "page", "at"] ["self", "numbers", "page"] (defScope s_Room_init) := ⟨rfl, rfl, rfl, by decide +kernel, rfl, by decide +kernel, by decide +kernel⟩
theorem ir_ok_Room_init (c : Cn) : cSs 60 (g_Room_init c) (defBody s_Room_init) = ir_Room_init c := rfl
abbrev s_Room_twin : Stmt := inClass (top 9) 7
def g_Room_twin (c : Cn) : Cfg := ⟨["self", "found", "page"], defScope s_Room_twin, defScope s_Room_twin, [("Room", .cls c.Room (sp_Room_init c) 3 [] [false, false] [((1, ["page"]), [.p 0, .p 1, .k 0])])], ["list"], [], [("pages", [c.Room]), ("holders", [c.Page]), ("many", [c.Room]), ("width", [c.Room])], [], [], ["pages", "kept"], [], [], [], [], false, ["View"], []⟩
theorem sc_Room_twin : FnScope ["self", "found", "page"] ["self"] (defScope s_Room_twin) := ⟨rfl, rfl, rfl, by decide +kernel, rfl, by decide +kernel, by decide +kernel⟩
theorem ir_ok_Room_twin (c : Cn) : cSs 60 (g_Room_twin c) (defBody s_Room_twin) = ir_Room_twin c := rfl
abbrev s_law_twin_5e11 : Stmt := top 16
def g_law_twin_5e11 (c : Cn) : Cfg := ⟨["_law_house", "_law_which"], defScope s_law_twin_5e11, defScope s_law_twin_5e11, [], ["list"], [], [], [(("twin", 0), [(c.Room, (sp_Room_twin c), 1, [])])], [], ["pages", "kept"], [], [], [], [], true, ["View"], []⟩
theorem sc_law_twin_5e11 : FnScope ["_law_house", "_law_which"] ["_law_house", "_law_which"] (defScope s_law_twin_5e11) := ⟨rfl, rfl, rfl, by decide +kernel, rfl, by decide +kernel, by decide +kernel⟩
theorem ir_ok_law_twin_5e11 (c : Cn) : cSs 60 (g_law_twin_5e11 c) (defBody s_law_twin_5e11) = ir_law_twin_5e11 c := rfl
abbrev s_is_whole : Stmt := top 5
def g_is_whole (c : Cn) : Cfg := ⟨["thing"], defScope s_is_whole, defScope s_is_whole, [], ["isinstance", "bool", "int"], [], [], [], [], ["pages", "kept"], [], [], [], [], false, ["View"], []⟩
theorem sc_is_whole : FnScope ["thing"] ["thing"] (defScope s_is_whole) := ⟨rfl, rfl, rfl, by decide +kernel, rfl, by decide +kernel, by decide +kernel⟩
theorem ir_ok_is_whole (c : Cn) : cSs 60 (g_is_whole c) (defBody s_is_whole) = ir_is_whole := rfl
abbrev s_Room_need : Stmt := inClass (top 9) 2
def g_Room_need (a_is_whole : Addr) (c : Cn) : Cfg := ⟨["self", "cell"], defScope s_Room_need, defScope s_Room_need, [("is_whole", .fn a_is_whole sp_is_whole 1 [(1, [])] [false] [])], [], [], [("many", [c.Room])], [], [], ["pages", "kept"], [], [], [], [], false, ["View"], []⟩
theorem sc_Room_need : FnScope ["self", "cell"] ["self", "cell"] (defScope s_Room_need) := ⟨rfl, rfl, rfl, by decide +kernel, rfl, by decide +kernel, by decide +kernel⟩
theorem ir_ok_Room_need (a_is_whole : Addr) (c : Cn) : cSs 60 (g_Room_need a_is_whole c) (defBody s_Room_need) = ir_Room_need c := rfl
abbrev s_Room_read : Stmt := inClass (top 9) 3
def g_Room_read (c : Cn) : Cfg := ⟨["self", "cell"], defScope s_Room_read, defScope s_Room_read, [], [], [], [("kept", [c.Page]), ("pages", [c.Room]), ("width", [c.Room])], [(("need", 1), [(c.Room, (sp_Room_need c), 2, [])])], [], ["pages", "kept"], [], [], [], [], false, ["View"], []⟩
theorem sc_Room_read : FnScope ["self", "cell"] ["self", "cell"] (defScope s_Room_read) := ⟨rfl, rfl, rfl, by decide +kernel, rfl, by decide +kernel, by decide +kernel⟩
theorem ir_ok_Room_read (c : Cn) : cSs 60 (g_Room_read c) (defBody s_Room_read) = ir_Room_read c := rfl
abbrev s_Room_own_page : Stmt := inClass (top 9) 4
def g_Room_own_page (c : Cn) : Cfg := ⟨["self", "at", "page"], defScope s_Room_own_page, defScope s_Room_own_page, [("Page", .cls c.Page (sp_Page_init c) 2 [(1, [])] [true] [])], ["list"], [], [("holders", [c.Page]), ("copies", [c.Room]), ("pages", [c.Room]), ("kept", [c.Page])], [], [], ["pages", "kept"], [], [], [], [], false, ["View"], []⟩
theorem sc_Room_own_page : FnScope ["self", "at", "page"] ["self", "at"] (defScope s_Room_own_page) := ⟨rfl, rfl, rfl, by decide +kernel, rfl, by decide +kernel, by decide +kernel⟩
theorem ir_ok_Room_own_page (c : Cn) : cSs 60 (g_Room_own_page c) (defBody s_Room_own_page) = ir_Room_own_page c := rfl
abbrev s_Room_write : Stmt := inClass (top 9) 5
def g_Room_write (c : Cn) : Cfg := ⟨["self", "cell", "number"], defScope s_Room_write, defScope s_Room_write, [], [], [], [("kept", [c.Page]), ("width", [c.Room]), ("shuts", [c.Room])], [(("read", 1), [(c.Room, (sp_Room_read c), 2, [])]), (("own_page", 1), [(c.Room, (sp_Room_own_page c), 2, [])]), (("need", 1), [(c.Room, (sp_Room_need c), 2, [])])], [], ["pages", "kept"], [], [], [], [], false, ["View"], []⟩
theorem sc_Room_write : FnScope ["self", "cell", "number"] ["self", "cell", "number"] (defScope s_Room_write) := ⟨rfl, rfl, rfl, by decide +kernel, rfl, by decide +kernel, by decide +kernel⟩
theorem ir_ok_Room_write (c : Cn) : cSs 60 (g_Room_write c) (defBody s_Room_write) = ir_Room_write c := rfl
abbrev s_law_write_4795 : Stmt := top 17
def g_law_write_4795 (c : Cn) : Cfg := ⟨["_law_house", "_law_which", "_law_cell_here", "_law_number", "_law_at", "_law_name", "_law_pages"], defScope s_law_write_4795, defScope s_law_write_4795, [], ["sum"], [], [], [(("write", 2), [(c.Room, (sp_Room_write c), 3, [])])], [], ["pages", "kept"], [], [], [], [], false, ["View"], []⟩
theorem sc_law_write_4795 : FnScope ["_law_house", "_law_which", "_law_cell_here", "_law_number", "_law_at", "_law_name", "_law_pages"] ["_law_house", "_law_which", "_law_cell_here", "_law_number"] (defScope s_law_write_4795) := ⟨rfl, rfl, rfl, by decide +kernel, rfl, by decide +kernel, by decide +kernel⟩
theorem ir_ok_law_write_4795 (c : Cn) : cSs 60 (g_law_write_4795 c) (defBody s_law_write_4795) = ir_law_write_4795 c := rfl
abbrev s_law_begun_06ad : Stmt := top 15
def g_law_begun_06ad (a_law_take_6e13 : Addr) (c : Cn) : Cfg := ⟨["_law_bag_here", "_law_house", "_law_turn", "_law_numbers", "_law_width", "_law_pages", "_law_at", "_law_k"], defScope s_law_begun_06ad, defScope s_law_begun_06ad, [("_law_take", .fn a_law_take_6e13 sp_law_take_6e13 2 [(2, [])] [true, false] []), ("Room", .cls c.Room (sp_Room_init c) 3 [] [false, false] [((1, ["page"]), [.p 0, .p 1, .k 0])])], ["range", "len"], [], [], [], ["_law_bag_here", "_law_numbers", "_law_pages"], ["pages", "kept"], [], [], [], [], true, ["View"], []⟩
theorem sc_law_begun_06ad : FnScope ["_law_bag_here", "_law_house", "_law_turn", "_law_numbers", "_law_width", "_law_pages", "_law_at", "_law_k"] ["_law_bag_here", "_law_house"] (defScope s_law_begun_06ad) := ⟨rfl, rfl, rfl, by decide +kernel, rfl, by decide +kernel, by decide +kernel⟩
theorem ir_ok_law_begun_06ad (a_law_take_6e13 : Addr) (c : Cn) : cSs 60 (g_law_begun_06ad a_law_take_6e13 c) (defBody s_law_begun_06ad) = ir_law_begun_06ad c := rfl
abbrev s_law_cell : Stmt := top 11
def g_law_cell (c : Cn) : Cfg := ⟨["_law_script", "_law_k"], defScope s_law_cell, defScope s_law_cell, [], ["len"], [], [], [], [], ["pages", "kept"], [], [], [], [], false, ["View"], []⟩
theorem sc_law_cell : FnScope ["_law_script", "_law_k"] ["_law_script", "_law_k"] (defScope s_law_cell) := ⟨rfl, rfl, rfl, by decide +kernel, rfl, by decide +kernel, by decide +kernel⟩
theorem ir_ok_law_cell (c : Cn) : cSs 60 (g_law_cell c) (defBody s_law_cell) = ir_law_cell := rfl
abbrev s_law_bag_c7a2 : Stmt := top 12
def g_law_bag_c7a2 (a_law_cell : Addr) (c : Cn) : Cfg := ⟨["_law_script", "_law_at", "_law_cell_here", "_law_mix", "_law_k"], defScope s_law_bag_c7a2, defScope s_law_bag_c7a2, [("_law_cell", .fn a_law_cell sp_law_cell 2 [(2, [])] [false, false] [])], ["range", "min", "len", "abs"], [], [], [], [], ["pages", "kept"], [], [], [], [], false, ["View"], []⟩
theorem sc_law_bag_c7a2 : FnScope ["_law_script", "_law_at", "_law_cell_here", "_law_mix", "_law_k"] ["_law_script", "_law_at"] (defScope s_law_bag_c7a2) := ⟨rfl, rfl, rfl, by decide +kernel, rfl, by decide +kernel, by decide +kernel⟩
theorem ir_ok_law_bag_c7a2 (a_law_cell : Addr) (c : Cn) : cSs 60 (g_law_bag_c7a2 a_law_cell c) (defBody s_law_bag_c7a2) = ir_law_bag_c7a2 := rfl
abbrev s_Room_numbers : Stmt := inClass (top 9) 6
def g_Room_numbers (c : Cn) : Cfg := ⟨["self", "page", "number"], defScope s_Room_numbers, defScope s_Room_numbers, [], [], [], [("pages", [c.Room]), ("kept", [c.Page])], [], [], ["pages", "kept"], [], [], [], [], false, ["View"], []⟩
theorem sc_Room_numbers : FnScope ["self", "page", "number"] ["self"] (defScope s_Room_numbers) := ⟨rfl, rfl, rfl, by decide +kernel, rfl, by decide +kernel, by decide +kernel⟩
theorem ir_ok_Room_numbers (c : Cn) : cSs 60 (g_Room_numbers c) (defBody s_Room_numbers) = ir_Room_numbers c := rfl
abbrev s_law_eb36 : Stmt := top 19
def g_law_eb36 (a_law_take_6e13 a_law_shared_good a_law_twin_5e11 a_law_write_4795 a_law_begun_06ad a_law_bag_c7a2 : Addr) (c : Cn) : Cfg := ⟨["_law_script", "_law_k", "_law_bag_here", "_law_house", "_law_turn", "_law_which", "_law_way", "_law_at", "_law_cell_here", "_law_room"], defScope s_law_eb36, defScope s_law_eb36, [("_law_take", .fn a_law_take_6e13 sp_law_take_6e13 2 [(2, [])] [true, false] []), ("_law_shared_good", .fn a_law_shared_good (sp_law_shared_good c) 1 [(1, [])] [false] []), ("_law_twin", .fn a_law_twin_5e11 (sp_law_twin_5e11 c) 2 [(2, [])] [false, false] []), ("_law_write", .fn a_law_write_4795 (sp_law_write_4795 c) 4 [(4, [])] [false, false, false, false] []), ("_law_begun", .fn a_law_begun_06ad (sp_law_begun_06ad c) 2 [(2, [])] [true, false] []), ("_law_bag", .fn a_law_bag_c7a2 sp_law_bag_c7a2 2 [(2, [])] [false, false] [])], ["range", "max", "min", "len", "int"], [], [], [(("numbers", 0), [(c.Room, (sp_Room_numbers c), 1, [])])], ["_law_bag_here"], ["pages", "kept"], [], [], [], [], true, ["View"], []⟩
theorem sc_law_eb36 : FnScope ["_law_script", "_law_k", "_law_bag_here", "_law_house", "_law_turn", "_law_which", "_law_way", "_law_at", "_law_cell_here", "_law_room"] ["_law_script"] (defScope s_law_eb36) := ⟨rfl, rfl, rfl, by decide +kernel, rfl, by decide +kernel, by decide +kernel⟩
theorem ir_ok_law_eb36 (a_law_take_6e13 a_law_shared_good a_law_twin_5e11 a_law_write_4795 a_law_begun_06ad a_law_bag_c7a2 : Addr) (c : Cn) : cSs 60 (g_law_eb36 a_law_take_6e13 a_law_shared_good a_law_twin_5e11 a_law_write_4795 a_law_begun_06ad a_law_bag_c7a2 c) (defBody s_law_eb36) = ir_law_eb36 c := rfl
theorem all_mk {l : PySem.W.OpenLaw} {w : World} {K : PySem.W.Frag} {h : Heap} {mg : Str → Option Value} {fa a_law_take_6e13 a_law_whole_585e a_Room_shared a_law_shared_good a_Page_init a_Room_init a_Room_twin a_law_twin_5e11 a_is_whole a_Room_need a_Room_read a_Room_own_page a_Room_write a_law_write_4795 a_law_begun_06ad a_law_cell a_law_bag_c7a2 a_Room_numbers a_law_eb36 k_Room k_Page : Addr} (X : K.In h) (G : h.Ns mainGlobals mg) (hfa : mg "law" = some (.ref fa))
    {od0 an0 : Option Addr} {sl0 : Array (Option Value)} {oc0 kV0 dc0 pm0 cd0 ct0 : Value}
    {od1 an1 : Option Addr} {sl1 : Array (Option Value)} {oc1 kV1 dc1 pm1 cd1 ct1 : Value}
    {od2 an2 : Option Addr} {sl2 : Array (Option Value)} {oc2 kV2 dc2 pm2 cd2 ct2 : Value}
    {od3 an3 : Option Addr} {sl3 : Array (Option Value)} {oc3 kV3 dc3 pm3 cd3 ct3 : Value}
    {od4 an4 : Option Addr} {sl4 : Array (Option Value)} {oc4 kV4 dc4 pm4 cd4 ct4 : Value}
    {od5 an5 : Option Addr} {sl5 : Array (Option Value)} {oc5 dc5 pm5 cd5 ct5 : Value}
    {dT5 : Addr} {dc_T5 : Value} {dd5 : Option Addr} {dn5 : Nat} {ds5 : Array (Option Value)}
    {e_5_0 : Addr} {eo_5_0 : Option Addr} {en_5_0 : Nat} {es_5_0 : Array (Option Value)}
    {kD5 : Addr}
    {t_5_page : Tok}
    {od6 an6 : Option Addr} {sl6 : Array (Option Value)} {oc6 kV6 dc6 pm6 cd6 ct6 : Value}
    {od7 an7 : Option Addr} {sl7 : Array (Option Value)} {oc7 kV7 dc7 pm7 cd7 ct7 : Value}
    {od8 an8 : Option Addr} {sl8 : Array (Option Value)} {oc8 kV8 dc8 pm8 cd8 ct8 : Value}
    {od9 an9 : Option Addr} {sl9 : Array (Option Value)} {oc9 kV9 dc9 pm9 cd9 ct9 : Value}
    {od10 an10 : Option Addr} {sl10 : Array (Option Value)} {oc10 kV10 dc10 pm10 cd10 ct10 : Value}
    {od11 an11 : Option Addr} {sl11 : Array (Option Value)} {oc11 kV11 dc11 pm11 cd11 ct11 : Value}
    {od12 an12 : Option Addr} {sl12 : Array (Option Value)} {oc12 kV12 dc12 pm12 cd12 ct12 : Value}
    {od13 an13 : Option Addr} {sl13 : Array (Option Value)} {oc13 kV13 dc13 pm13 cd13 ct13 : Value}
    {od14 an14 : Option Addr} {sl14 : Array (Option Value)} {oc14 kV14 dc14 pm14 cd14 ct14 : Value}
    {od15 an15 : Option Addr} {sl15 : Array (Option Value)} {oc15 kV15 dc15 pm15 cd15 ct15 : Value}
    {od16 an16 : Option Addr} {sl16 : Array (Option Value)} {oc16 kV16 dc16 pm16 cd16 ct16 : Value}
    {od17 an17 : Option Addr} {sl17 : Array (Option Value)} {oc17 kV17 dc17 pm17 cd17 ct17 : Value}
    {od18 an18 : Option Addr} {sl18 : Array (Option Value)} {oc18 kV18 dc18 pm18 cd18 ct18 : Value}
    (cm_Room : PySem.W.nsIn K mainGlobals "Room" = some (some (.ref k_Room)))
    (cp_Room : PySem.W.plainGet K k_Room Str.empty = true)
    (ch_Room : PySem.W.hasDictIn K k_Room = true)
    (co_Room : PySem.W.plainOver K k_Room = true)
    (cs_Room : PySem.W.findIn K (.ref k_Room) "__setattr__" = some (some (.builtin "object.__setattr__")))
    (cm_Page : PySem.W.nsIn K mainGlobals "Page" = some (some (.ref k_Page)))
    (cp_Page : PySem.W.plainGet K k_Page Str.empty = true)
    (ch_Page : PySem.W.hasDictIn K k_Page = true)
    (co_Page : PySem.W.plainOver K k_Page = true)
    (cs_Page : PySem.W.findIn K (.ref k_Page) "__setattr__" = some (some (.builtin "object.__setattr__")))
    (ck_Room : PySem.W.makesIn K k_Room = true)
    (cq_Room : PySem.W.keepIn K (.ref k_Room) = true)
    (ck_Page : PySem.W.makesIn K k_Page = true)
    (cq_Page : PySem.W.keepIn K (.ref k_Page) = true)
    (et_Page : PySem.W.mroIn K k_Page (.type "object") = some true)
    (en_Page : PySem.W.findIn K (.ref k_Page) "__ne__" = some (some (.builtin "object.__ne__")))
    (ee_Page : PySem.W.findIn K (.ref k_Page) "__eq__" = some (some (.builtin "object.__eq__")))
    (na_Room_pages : PySem.W.findIn K (.ref k_Room) "pages" = some none)
    (na_Page_holders : PySem.W.findIn K (.ref k_Page) "holders" = some none)
    (na_Page_kept : PySem.W.findIn K (.ref k_Page) "kept" = some none)
    (na_Room_shuts : PySem.W.findIn K (.ref k_Room) "shuts" = some none)
    (na_Room_copies : PySem.W.findIn K (.ref k_Room) "copies" = some none)
    (na_Room_width : PySem.W.findIn K (.ref k_Room) "width" = some none)
    (na_Room_many : PySem.W.findIn K (.ref k_Room) "many" = some none)
    (m0 : PySem.W.nsIn K mainGlobals "_law_take" = some (some (.ref a_law_take_6e13)))
    (l0 : K.lookup a_law_take_6e13 = some ⟨oc0, od0, .func (PySem.W.fnOf "_law_take" "_law_take" (defArgs s_law_take_6e13) (defBody s_law_take_6e13) (defScope s_law_take_6e13) .none kV0 dc0 pm0 an0 cd0 ct0), sl0⟩)
    (c0 : PySem.W.codeIn K cd0 "_law_take" = true)
    (k0 : PySem.W.keepIn K (.ref a_law_take_6e13) = true)
    (m1 : PySem.W.nsIn K mainGlobals "_law_whole" = some (some (.ref a_law_whole_585e)))
    (l1 : K.lookup a_law_whole_585e = some ⟨oc1, od1, .func (PySem.W.fnOf "_law_whole" "_law_whole" (defArgs s_law_whole_585e) (defBody s_law_whole_585e) (defScope s_law_whole_585e) .none kV1 dc1 pm1 an1 cd1 ct1), sl1⟩)
    (c1 : PySem.W.codeIn K cd1 "_law_whole" = true)
    (k1 : PySem.W.keepIn K (.ref a_law_whole_585e) = true)
    (m2 : PySem.W.findIn K (.ref k_Room) "shared" = some (some (.ref a_Room_shared)))
    (f2 : PySem.W.isFn K (.ref a_Room_shared) = true)
    (l2 : K.lookup a_Room_shared = some ⟨oc2, od2, .func (PySem.W.fnOf "shared" "Room.shared" (defArgs s_Room_shared) (defBody s_Room_shared) (defScope s_Room_shared) .none kV2 dc2 pm2 an2 cd2 ct2), sl2⟩)
    (c2 : PySem.W.codeIn K cd2 "Room.shared" = true)
    (k2 : PySem.W.keepIn K (.ref a_Room_shared) = true)
    (m3 : PySem.W.nsIn K mainGlobals "_law_shared_good" = some (some (.ref a_law_shared_good)))
    (l3 : K.lookup a_law_shared_good = some ⟨oc3, od3, .func (PySem.W.fnOf "_law_shared_good" "_law_shared_good" (defArgs s_law_shared_good) (defBody s_law_shared_good) (defScope s_law_shared_good) .none kV3 dc3 pm3 an3 cd3 ct3), sl3⟩)
    (c3 : PySem.W.codeIn K cd3 "_law_shared_good" = true)
    (k3 : PySem.W.keepIn K (.ref a_law_shared_good) = true)
    (m4 : PySem.W.findIn K (.ref k_Page) "__init__" = some (some (.ref a_Page_init)))
    (f4 : PySem.W.isFn K (.ref a_Page_init) = true)
    (l4 : K.lookup a_Page_init = some ⟨oc4, od4, .func (PySem.W.fnOf "__init__" "Page.__init__" (defArgs s_Page_init) (defBody s_Page_init) (defScope s_Page_init) .none kV4 dc4 pm4 an4 cd4 ct4), sl4⟩)
    (c4 : PySem.W.codeIn K cd4 "Page.__init__" = true)
    (k4 : PySem.W.keepIn K (.ref a_Page_init) = true)
    (m5 : PySem.W.findIn K (.ref k_Room) "__init__" = some (some (.ref a_Room_init)))
    (f5 : PySem.W.isFn K (.ref a_Room_init) = true)
    (l5 : K.lookup a_Room_init = some ⟨oc5, od5, .func (PySem.W.fnOf "__init__" "Room.__init__" (defArgs s_Room_init) (defBody s_Room_init) (defScope s_Room_init) (.ref dT5) (.ref kD5) dc5 pm5 an5 cd5 ct5), sl5⟩)
    (c5 : PySem.W.codeIn K cd5 "Room.__init__" = true)
    (k5 : PySem.W.keepIn K (.ref a_Room_init) = true)
    (d5 : K.lookup dT5 = some ⟨dc_T5, dd5, .seq (List.toArray [.ref e_5_0]) dn5, ds5⟩)
    (q5_page : PySem.W.nsIn K kD5 "page" = some (some (.int 8 t_5_page)))
    (w_5_0 : K.lookup e_5_0 = some ⟨.type "tuple", eo_5_0, .seq (List.toArray []) en_5_0, es_5_0⟩)
    (m6 : PySem.W.findIn K (.ref k_Room) "twin" = some (some (.ref a_Room_twin)))
    (f6 : PySem.W.isFn K (.ref a_Room_twin) = true)
    (l6 : K.lookup a_Room_twin = some ⟨oc6, od6, .func (PySem.W.fnOf "twin" "Room.twin" (defArgs s_Room_twin) (defBody s_Room_twin) (defScope s_Room_twin) .none kV6 dc6 pm6 an6 cd6 ct6), sl6⟩)
    (c6 : PySem.W.codeIn K cd6 "Room.twin" = true)
    (k6 : PySem.W.keepIn K (.ref a_Room_twin) = true)
    (m7 : PySem.W.nsIn K mainGlobals "_law_twin" = some (some (.ref a_law_twin_5e11)))
    (l7 : K.lookup a_law_twin_5e11 = some ⟨oc7, od7, .func (PySem.W.fnOf "_law_twin" "_law_twin" (defArgs s_law_twin_5e11) (defBody s_law_twin_5e11) (defScope s_law_twin_5e11) .none kV7 dc7 pm7 an7 cd7 ct7), sl7⟩)
    (c7 : PySem.W.codeIn K cd7 "_law_twin" = true)
    (k7 : PySem.W.keepIn K (.ref a_law_twin_5e11) = true)
    (m8 : PySem.W.nsIn K mainGlobals "is_whole" = some (some (.ref a_is_whole)))
    (l8 : K.lookup a_is_whole = some ⟨oc8, od8, .func (PySem.W.fnOf "is_whole" "is_whole" (defArgs s_is_whole) (defBody s_is_whole) (defScope s_is_whole) .none kV8 dc8 pm8 an8 cd8 ct8), sl8⟩)
    (c8 : PySem.W.codeIn K cd8 "is_whole" = true)
    (k8 : PySem.W.keepIn K (.ref a_is_whole) = true)
    (m9 : PySem.W.findIn K (.ref k_Room) "need" = some (some (.ref a_Room_need)))
    (f9 : PySem.W.isFn K (.ref a_Room_need) = true)
    (l9 : K.lookup a_Room_need = some ⟨oc9, od9, .func (PySem.W.fnOf "need" "Room.need" (defArgs s_Room_need) (defBody s_Room_need) (defScope s_Room_need) .none kV9 dc9 pm9 an9 cd9 ct9), sl9⟩)
    (c9 : PySem.W.codeIn K cd9 "Room.need" = true)
    (k9 : PySem.W.keepIn K (.ref a_Room_need) = true)
    (m10 : PySem.W.findIn K (.ref k_Room) "read" = some (some (.ref a_Room_read)))
    (f10 : PySem.W.isFn K (.ref a_Room_read) = true)
    (l10 : K.lookup a_Room_read = some ⟨oc10, od10, .func (PySem.W.fnOf "read" "Room.read" (defArgs s_Room_read) (defBody s_Room_read) (defScope s_Room_read) .none kV10 dc10 pm10 an10 cd10 ct10), sl10⟩)
    (c10 : PySem.W.codeIn K cd10 "Room.read" = true)
    (k10 : PySem.W.keepIn K (.ref a_Room_read) = true)
    (m11 : PySem.W.findIn K (.ref k_Room) "own_page" = some (some (.ref a_Room_own_page)))
    (f11 : PySem.W.isFn K (.ref a_Room_own_page) = true)
    (l11 : K.lookup a_Room_own_page = some ⟨oc11, od11, .func (PySem.W.fnOf "own_page" "Room.own_page" (defArgs s_Room_own_page) (defBody s_Room_own_page) (defScope s_Room_own_page) .none kV11 dc11 pm11 an11 cd11 ct11), sl11⟩)
    (c11 : PySem.W.codeIn K cd11 "Room.own_page" = true)
    (k11 : PySem.W.keepIn K (.ref a_Room_own_page) = true)
    (m12 : PySem.W.findIn K (.ref k_Room) "write" = some (some (.ref a_Room_write)))
    (f12 : PySem.W.isFn K (.ref a_Room_write) = true)
    (l12 : K.lookup a_Room_write = some ⟨oc12, od12, .func (PySem.W.fnOf "write" "Room.write" (defArgs s_Room_write) (defBody s_Room_write) (defScope s_Room_write) .none kV12 dc12 pm12 an12 cd12 ct12), sl12⟩)
    (c12 : PySem.W.codeIn K cd12 "Room.write" = true)
    (k12 : PySem.W.keepIn K (.ref a_Room_write) = true)
    (m13 : PySem.W.nsIn K mainGlobals "_law_write" = some (some (.ref a_law_write_4795)))
    (l13 : K.lookup a_law_write_4795 = some ⟨oc13, od13, .func (PySem.W.fnOf "_law_write" "_law_write" (defArgs s_law_write_4795) (defBody s_law_write_4795) (defScope s_law_write_4795) .none kV13 dc13 pm13 an13 cd13 ct13), sl13⟩)
    (c13 : PySem.W.codeIn K cd13 "_law_write" = true)
    (k13 : PySem.W.keepIn K (.ref a_law_write_4795) = true)
    (m14 : PySem.W.nsIn K mainGlobals "_law_begun" = some (some (.ref a_law_begun_06ad)))
    (l14 : K.lookup a_law_begun_06ad = some ⟨oc14, od14, .func (PySem.W.fnOf "_law_begun" "_law_begun" (defArgs s_law_begun_06ad) (defBody s_law_begun_06ad) (defScope s_law_begun_06ad) .none kV14 dc14 pm14 an14 cd14 ct14), sl14⟩)
    (c14 : PySem.W.codeIn K cd14 "_law_begun" = true)
    (k14 : PySem.W.keepIn K (.ref a_law_begun_06ad) = true)
    (m15 : PySem.W.nsIn K mainGlobals "_law_cell" = some (some (.ref a_law_cell)))
    (l15 : K.lookup a_law_cell = some ⟨oc15, od15, .func (PySem.W.fnOf "_law_cell" "_law_cell" (defArgs s_law_cell) (defBody s_law_cell) (defScope s_law_cell) .none kV15 dc15 pm15 an15 cd15 ct15), sl15⟩)
    (c15 : PySem.W.codeIn K cd15 "_law_cell" = true)
    (k15 : PySem.W.keepIn K (.ref a_law_cell) = true)
    (m16 : PySem.W.nsIn K mainGlobals "_law_bag" = some (some (.ref a_law_bag_c7a2)))
    (l16 : K.lookup a_law_bag_c7a2 = some ⟨oc16, od16, .func (PySem.W.fnOf "_law_bag" "_law_bag" (defArgs s_law_bag_c7a2) (defBody s_law_bag_c7a2) (defScope s_law_bag_c7a2) .none kV16 dc16 pm16 an16 cd16 ct16), sl16⟩)
    (c16 : PySem.W.codeIn K cd16 "_law_bag" = true)
    (k16 : PySem.W.keepIn K (.ref a_law_bag_c7a2) = true)
    (m17 : PySem.W.findIn K (.ref k_Room) "numbers" = some (some (.ref a_Room_numbers)))
    (f17 : PySem.W.isFn K (.ref a_Room_numbers) = true)
    (l17 : K.lookup a_Room_numbers = some ⟨oc17, od17, .func (PySem.W.fnOf "numbers" "Room.numbers" (defArgs s_Room_numbers) (defBody s_Room_numbers) (defScope s_Room_numbers) .none kV17 dc17 pm17 an17 cd17 ct17), sl17⟩)
    (c17 : PySem.W.codeIn K cd17 "Room.numbers" = true)
    (k17 : PySem.W.keepIn K (.ref a_Room_numbers) = true)
    (m18 : PySem.W.nsIn K mainGlobals "law" = some (some (.ref a_law_eb36)))
    (l18 : K.lookup a_law_eb36 = some ⟨oc18, od18, .func (PySem.W.fnOf "law" "law" (defArgs s_law_eb36) (defBody s_law_eb36) (defScope s_law_eb36) .none kV18 dc18 pm18 an18 cd18 ct18), sl18⟩)
    (c18 : PySem.W.codeIn K cd18 "law" = true)
    (k18 : PySem.W.keepIn K (.ref a_law_eb36) = true)
    (z_isinstance : PySem.W.nsIn K mainGlobals "isinstance" = some none)
    (z_bool : PySem.W.nsIn K mainGlobals "bool" = some none)
    (z_int : PySem.W.nsIn K mainGlobals "int" = some none)
    (z_enumerate : PySem.W.nsIn K mainGlobals "enumerate" = some none)
    (z_zip : PySem.W.nsIn K mainGlobals "zip" = some none)
    (z_all : PySem.W.nsIn K mainGlobals "all" = some none)
    (z_list : PySem.W.nsIn K mainGlobals "list" = some none)
    (z_range : PySem.W.nsIn K mainGlobals "range" = some none)
    (z_len : PySem.W.nsIn K mainGlobals "len" = some none)
    (z_sum : PySem.W.nsIn K mainGlobals "sum" = some none)
    (z_min : PySem.W.nsIn K mainGlobals "min" = some none)
    (z_abs : PySem.W.nsIn K mainGlobals "abs" = some none)
    (z_max : PySem.W.nsIn K mainGlobals "max" = some none)
    : ∃ fd : FuncData, (∀ (s : Shared) (v : Value), BindsTo s fd ⟨[v], []⟩ [("_law_script", v)]) ∧ ∀ base : Heap, K.In base → base.Ns mainGlobals mg → FnOk l.prog w K mg base CX0 7 fa fd ["_law_script"] (simSp K 1 spLaw) := by
  have e := hfa.symm.trans (PySem.W.mg_of X G m18)
  cases e
  have Z_isinstance := PySem.W.mg_none_of X G z_isinstance
  have Z_bool := PySem.W.mg_none_of X G z_bool
  have Z_int := PySem.W.mg_none_of X G z_int
  have Z_enumerate := PySem.W.mg_none_of X G z_enumerate
  have Z_zip := PySem.W.mg_none_of X G z_zip
  have Z_all := PySem.W.mg_none_of X G z_all
  have Z_list := PySem.W.mg_none_of X G z_list
  have Z_range := PySem.W.mg_none_of X G z_range
  have Z_len := PySem.W.mg_none_of X G z_len
  have Z_sum := PySem.W.mg_none_of X G z_sum
  have Z_min := PySem.W.mg_none_of X G z_min
  have Z_abs := PySem.W.mg_none_of X G z_abs
  have Z_max := PySem.W.mg_none_of X G z_max
  have MC_Room := PySem.W.mg_of X G cm_Room
  have CL_Room : Cls K k_Room := ⟨cp_Room, ch_Room, co_Room, cs_Room⟩
  have MC_Page := PySem.W.mg_of X G cm_Page
  have CL_Page : Cls K k_Page := ⟨cp_Page, ch_Page, co_Page, cs_Page⟩
  have M_law_take_6e13 := PySem.W.mg_of X G m0
  have F_law_take_6e13 := fun_mk (st := s_law_take_6e13) l0 c0 k0
  have b_law_take_6e13 := F_law_take_6e13.binds (ps := ["_law_bag_here", "_law_many"]) fun _ _ _ _ _ _ us hl => match us, hl with | [_, _], _ => rfl
  have M_law_whole_585e := PySem.W.mg_of X G m1
  have F_law_whole_585e := fun_mk (st := s_law_whole_585e) l1 c1 k1
  have b_law_whole_585e := F_law_whole_585e.binds (ps := ["_law_thing"]) fun _ _ _ _ _ _ us hl => match us, hl with | [_], _ => rfl
  have ME_Room_shared : Meth K k_Room "shared" a_Room_shared := ⟨m2, f2, k2⟩
  have F_Room_shared := fun_mk (st := s_Room_shared) l2 c2 k2
  have b_Room_shared := F_Room_shared.binds (ps := ["self", "other"]) fun _ _ _ _ _ _ us hl => match us, hl with | [_, _], _ => rfl
  have M_law_shared_good := PySem.W.mg_of X G m3
  have F_law_shared_good := fun_mk (st := s_law_shared_good) l3 c3 k3
  have b_law_shared_good := F_law_shared_good.binds (ps := ["_law_house"]) fun _ _ _ _ _ _ us hl => match us, hl with | [_], _ => rfl
  have ME_Page_init : Meth K k_Page "__init__" a_Page_init := ⟨m4, f4, k4⟩
  have F_Page_init := fun_mk (st := s_Page_init) l4 c4 k4
  have b_Page_init := F_Page_init.binds (ps := ["self", "kept"]) fun _ _ _ _ _ _ us hl => match us, hl with | [_, _], _ => rfl
  have ME_Room_init : Meth K k_Room "__init__" a_Room_init := ⟨m5, f5, k5⟩
  have F_Room_init := fund_mk (st := s_Room_init) (dvs := [.ref e_5_0]) (kws := [("page", .int 8)]) l5 c5 k5 (dfl_mk (by simp) d5 ((.cons rfl .nil))) (kwd_mk (kws := [("page", .int 8)]) (by intro q hq; simp only [List.mem_cons, List.not_mem_nil, or_false] at hq; subst hq; exact ⟨_, q5_page, ⟨t_5_page, rfl⟩⟩))
  obtain ⟨it5_0, mv5_0, kb5_0⟩ := F_Room_init.kbinds (ps := ["self", "numbers", "page"]) 2 ["page"] [] (fun us ds mz zs => lay [.p 0, .p 1, .k 0] us ds mz zs) (by simp) (by simp) (fun q hq => by cases hq) (fun a b c d => lay_rel _ a b c d) fun T D doc pm an cdv ct us its mv ws l1 l2 l3 l4 => match us, its, mv, ws, l1, l2, l3, l4 with | [_, _], [_], [], [_], _, _, _, _ => ⟨_, rfl, rfl⟩
  have ME_Room_twin : Meth K k_Room "twin" a_Room_twin := ⟨m6, f6, k6⟩
  have F_Room_twin := fun_mk (st := s_Room_twin) l6 c6 k6
  have b_Room_twin := F_Room_twin.binds (ps := ["self"]) fun _ _ _ _ _ _ us hl => match us, hl with | [_], _ => rfl
  have M_law_twin_5e11 := PySem.W.mg_of X G m7
  have F_law_twin_5e11 := fun_mk (st := s_law_twin_5e11) l7 c7 k7
  have b_law_twin_5e11 := F_law_twin_5e11.binds (ps := ["_law_house", "_law_which"]) fun _ _ _ _ _ _ us hl => match us, hl with | [_, _], _ => rfl
  have M_is_whole := PySem.W.mg_of X G m8
  have F_is_whole := fun_mk (st := s_is_whole) l8 c8 k8
  have b_is_whole := F_is_whole.binds (ps := ["thing"]) fun _ _ _ _ _ _ us hl => match us, hl with | [_], _ => rfl
  have ME_Room_need : Meth K k_Room "need" a_Room_need := ⟨m9, f9, k9⟩
  have F_Room_need := fun_mk (st := s_Room_need) l9 c9 k9
  have b_Room_need := F_Room_need.binds (ps := ["self", "cell"]) fun _ _ _ _ _ _ us hl => match us, hl with | [_, _], _ => rfl
  have ME_Room_read : Meth K k_Room "read" a_Room_read := ⟨m10, f10, k10⟩
  have F_Room_read := fun_mk (st := s_Room_read) l10 c10 k10
  have b_Room_read := F_Room_read.binds (ps := ["self", "cell"]) fun _ _ _ _ _ _ us hl => match us, hl with | [_, _], _ => rfl
  have ME_Room_own_page : Meth K k_Room "own_page" a_Room_own_page := ⟨m11, f11, k11⟩
  have F_Room_own_page := fun_mk (st := s_Room_own_page) l11 c11 k11
  have b_Room_own_page := F_Room_own_page.binds (ps := ["self", "at"]) fun _ _ _ _ _ _ us hl => match us, hl with | [_, _], _ => rfl
  have ME_Room_write : Meth K k_Room "write" a_Room_write := ⟨m12, f12, k12⟩
  have F_Room_write := fun_mk (st := s_Room_write) l12 c12 k12
  have b_Room_write := F_Room_write.binds (ps := ["self", "cell", "number"]) fun _ _ _ _ _ _ us hl => match us, hl with | [_, _, _], _ => rfl
  have M_law_write_4795 := PySem.W.mg_of X G m13
  have F_law_write_4795 := fun_mk (st := s_law_write_4795) l13 c13 k13
  have b_law_write_4795 := F_law_write_4795.binds (ps := ["_law_house", "_law_which", "_law_cell_here", "_law_number"]) fun _ _ _ _ _ _ us hl => match us, hl with | [_, _, _, _], _ => rfl
  have M_law_begun_06ad := PySem.W.mg_of X G m14
  have F_law_begun_06ad := fun_mk (st := s_law_begun_06ad) l14 c14 k14
  have b_law_begun_06ad := F_law_begun_06ad.binds (ps := ["_law_bag_here", "_law_house"]) fun _ _ _ _ _ _ us hl => match us, hl with | [_, _], _ => rfl
  have M_law_cell := PySem.W.mg_of X G m15
  have F_law_cell := fun_mk (st := s_law_cell) l15 c15 k15
  have b_law_cell := F_law_cell.binds (ps := ["_law_script", "_law_k"]) fun _ _ _ _ _ _ us hl => match us, hl with | [_, _], _ => rfl
  have M_law_bag_c7a2 := PySem.W.mg_of X G m16
  have F_law_bag_c7a2 := fun_mk (st := s_law_bag_c7a2) l16 c16 k16
  have b_law_bag_c7a2 := F_law_bag_c7a2.binds (ps := ["_law_script", "_law_at"]) fun _ _ _ _ _ _ us hl => match us, hl with | [_, _], _ => rfl
  have ME_Room_numbers : Meth K k_Room "numbers" a_Room_numbers := ⟨m17, f17, k17⟩
  have F_Room_numbers := fun_mk (st := s_Room_numbers) l17 c17 k17
  have b_Room_numbers := F_Room_numbers.binds (ps := ["self"]) fun _ _ _ _ _ _ us hl => match us, hl with | [_], _ => rfl
  have M_law_eb36 := PySem.W.mg_of X G m18
  have F_law_eb36 := fun_mk (st := s_law_eb36) l18 c18 k18
  have b_law_eb36 := F_law_eb36.binds (ps := ["_law_script"]) fun _ _ _ _ _ _ us hl => match us, hl with | [_], _ => rfl
  refine ⟨PySem.W.fnOf "law" "law" (defArgs s_law_eb36) (defBody s_law_eb36) (defScope s_law_eb36) .none kV18 dc18 pm18 an18 cd18 ct18, fun s v => .of_eq rfl, fun base _ _ => ?main⟩
  case main =>
    have O_law_take_6e13 : FnOk l.prog w K mg base CX0 1 a_law_take_6e13 _ ["_law_bag_here", "_law_many"] (simSp K 2 sp_law_take_6e13) := fn_ok 60 (g := g_law_take_6e13 (⟨k_Room, k_Page, k_Room + 1, 0, (Nat.succ_ne_self _).symm⟩ : Cn)) F_law_take_6e13 sc_law_take_6e13 rfl rfl rfl ⟨tab_nil, nog_nil, fld_nil, mth_nil, ic_nil, isOk0, ln_nil, eo_nil, es_nil⟩ (ir_ok_law_take_6e13 (⟨k_Room, k_Page, k_Room + 1, 0, (Nat.succ_ne_self _).symm⟩ : Cn)) (w_law_take_6e13)
    have S_law_take_6e13 : SF l.prog w K mg base 1 a_law_take_6e13 sp_law_take_6e13 2 [] := sf_mk O_law_take_6e13 (Nat.le_refl _) b_law_take_6e13
    have O_law_whole_585e : FnOk l.prog w K mg base CX0 1 a_law_whole_585e _ ["_law_thing"] (simSp K 1 sp_law_whole_585e) := fn_ok 60 (g := g_law_whole_585e (⟨k_Room, k_Page, k_Room + 1, 0, (Nat.succ_ne_self _).symm⟩ : Cn)) F_law_whole_585e sc_law_whole_585e rfl rfl rfl ⟨tab_nil, nog_cons Z_isinstance (nog_cons Z_bool (nog_cons Z_int (nog_nil))), fld_nil, mth_nil, ic_nil, isOk0, ln_nil, eo_nil, es_nil⟩ (ir_ok_law_whole_585e (⟨k_Room, k_Page, k_Room + 1, 0, (Nat.succ_ne_self _).symm⟩ : Cn)) (w_law_whole_585e)
    have S_law_whole_585e : SF l.prog w K mg base 1 a_law_whole_585e sp_law_whole_585e 1 [] := sf_mk O_law_whole_585e (Nat.le_refl _) b_law_whole_585e
    have O_Room_shared : FnOk l.prog w K mg base CX0 1 a_Room_shared _ ["self", "other"] (simSp K 2 (sp_Room_shared (⟨k_Room, k_Page, k_Room + 1, 0, (Nat.succ_ne_self _).symm⟩ : Cn))) := fn_ok 60 (g := g_Room_shared (⟨k_Room, k_Page, k_Room + 1, 0, (Nat.succ_ne_self _).symm⟩ : Cn)) F_Room_shared sc_Room_shared rfl rfl rfl ⟨tab_nil, nog_cons Z_enumerate (nog_cons Z_zip (nog_nil)), (fld_cons (fc_cons ⟨CL_Room, na_Room_pages⟩ fc_nil) fld_nil), mth_nil, ic_nil, isOk0, ln_nil, (eo_cons ⟨et_Page, ee_Page, en_Page⟩ eo_nil), es_nil⟩ (ir_ok_Room_shared (⟨k_Room, k_Page, k_Room + 1, 0, (Nat.succ_ne_self _).symm⟩ : Cn)) (w_Room_shared (⟨k_Room, k_Page, k_Room + 1, 0, (Nat.succ_ne_self _).symm⟩ : Cn))
    have S_Room_shared : SF l.prog w K mg base 1 a_Room_shared (sp_Room_shared (⟨k_Room, k_Page, k_Room + 1, 0, (Nat.succ_ne_self _).symm⟩ : Cn)) 2 [] := sf_mk O_Room_shared (Nat.le_refl _) b_Room_shared
    have O_law_shared_good : FnOk l.prog w K mg base CX0 2 a_law_shared_good _ ["_law_house"] (simSp K 1 (sp_law_shared_good (⟨k_Room, k_Page, k_Room + 1, 0, (Nat.succ_ne_self _).symm⟩ : Cn))) := fn_ok 60 (g := g_law_shared_good a_law_whole_585e (⟨k_Room, k_Page, k_Room + 1, 0, (Nat.succ_ne_self _).symm⟩ : Cn)) F_law_shared_good sc_law_shared_good rfl rfl rfl ⟨tab_cons (sg_fn M_law_whole_585e k1 (lp_cons (S_law_whole_585e.mono (by decide)) lp_nil) lk_nil) (tab_nil), nog_cons Z_zip (nog_cons Z_all (nog_cons Z_isinstance (nog_cons Z_list (nog_cons Z_enumerate (nog_nil))))), fld_nil, (mth_cons (mt_cons (sm_mk CL_Room ME_Room_shared (S_Room_shared.mono (by decide))) mt_nil) mth_nil), ic_nil, isOk0, ln_nil, eo_nil, es_nil⟩ (ir_ok_law_shared_good a_law_whole_585e (⟨k_Room, k_Page, k_Room + 1, 0, (Nat.succ_ne_self _).symm⟩ : Cn)) (w_law_shared_good (⟨k_Room, k_Page, k_Room + 1, 0, (Nat.succ_ne_self _).symm⟩ : Cn))
    have S_law_shared_good : SF l.prog w K mg base 2 a_law_shared_good (sp_law_shared_good (⟨k_Room, k_Page, k_Room + 1, 0, (Nat.succ_ne_self _).symm⟩ : Cn)) 1 [] := sf_mk O_law_shared_good (Nat.le_refl _) b_law_shared_good
    have O_Page_init : FnOk l.prog w K mg base CX0 1 a_Page_init _ ["self", "kept"] (simSp K 2 (sp_Page_init (⟨k_Room, k_Page, k_Room + 1, 0, (Nat.succ_ne_self _).symm⟩ : Cn))) := fn_ok 60 (g := g_Page_init (⟨k_Room, k_Page, k_Room + 1, 0, (Nat.succ_ne_self _).symm⟩ : Cn)) F_Page_init sc_Page_init rfl rfl rfl ⟨tab_nil, nog_nil, (fld_cons (fc_cons ⟨CL_Page, na_Page_holders⟩ fc_nil) (fld_cons (fc_cons ⟨CL_Page, na_Page_kept⟩ fc_nil) fld_nil)), mth_nil, ic_nil, isOk0, ln_nil, eo_nil, es_nil⟩ (ir_ok_Page_init (⟨k_Room, k_Page, k_Room + 1, 0, (Nat.succ_ne_self _).symm⟩ : Cn)) (w_Page_init (⟨k_Room, k_Page, k_Room + 1, 0, (Nat.succ_ne_self _).symm⟩ : Cn))
    have MI_Page : Mk K k_Page a_Page_init := ⟨ck_Page, m4, f4, cq_Page⟩
    have SN_Page : SN l.prog w K mg base 2 k_Page (sp_Page_init (⟨k_Room, k_Page, k_Room + 1, 0, (Nat.succ_ne_self _).symm⟩ : Cn)) 2 [] := sn_mk MI_Page O_Page_init (Nat.le_refl _) b_Page_init
    have O_Room_init : FnOk l.prog w K mg base CX0 3 a_Room_init _ ["self", "numbers", "page"] (simSp K 3 (sp_Room_init (⟨k_Room, k_Page, k_Room + 1, 0, (Nat.succ_ne_self _).symm⟩ : Cn))) := fn_ok_D 60 (g := g_Room_init (⟨k_Room, k_Page, k_Room + 1, 0, (Nat.succ_ne_self _).symm⟩ : Cn)) F_Room_init sc_Room_init rfl rfl rfl ⟨tab_cons (sg_cls MC_Page (lp_cons (SN_Page.mono (by decide)) lp_nil) lk_nil) (tab_nil), nog_cons Z_range (nog_cons Z_len (nog_cons Z_list (nog_nil))), (fld_cons (fc_cons ⟨CL_Room, na_Room_shuts⟩ fc_nil) (fld_cons (fc_cons ⟨CL_Room, na_Room_copies⟩ fc_nil) (fld_cons (fc_cons ⟨CL_Room, na_Room_pages⟩ fc_nil) (fld_cons (fc_cons ⟨CL_Room, na_Room_width⟩ fc_nil) (fld_cons (fc_cons ⟨CL_Room, na_Room_many⟩ fc_nil) fld_nil))))), mth_nil, ic_nil, isOk0, ln_nil, eo_nil, es_nil⟩ (ir_ok_Room_init (⟨k_Room, k_Page, k_Room + 1, 0, (Nat.succ_ne_self _).symm⟩ : Cn)) (w_Room_init (⟨k_Room, k_Page, k_Room + 1, 0, (Nat.succ_ne_self _).symm⟩ : Cn))
    have MI_Room : Mk K k_Room a_Room_init := ⟨ck_Room, m5, f5, cq_Room⟩
    have SNK_Room_0 : SNK l.prog w K mg base 4 k_Room (sp_Room_init (⟨k_Room, k_Page, k_Room + 1, 0, (Nat.succ_ne_self _).symm⟩ : Cn)) 3 1 ["page"] [.p 0, .p 1, .k 0] := snk_mk (l := [.p 0, .p 1, .k 0]) (dC := [.tup []]) (mC := []) MI_Room O_Room_init (Nat.le_refl _) kb5_0 (dv_cons (fun _ _ => .tup (.inr ⟨_, _, _, w_5_0, rfl, rfl, by decide, .nil⟩) .nil) dv_nil) dv_nil rfl rfl
    have O_Room_twin : FnOk l.prog w K mg base CX0 5 a_Room_twin _ ["self"] (simSp K 1 (sp_Room_twin (⟨k_Room, k_Page, k_Room + 1, 0, (Nat.succ_ne_self _).symm⟩ : Cn))) := fn_ok 60 (g := g_Room_twin (⟨k_Room, k_Page, k_Room + 1, 0, (Nat.succ_ne_self _).symm⟩ : Cn)) F_Room_twin sc_Room_twin rfl rfl rfl ⟨tab_cons (sg_cls MC_Room lp_nil (lk_cons (SNK_Room_0.mono (by decide)) lk_nil)) (tab_nil), nog_cons Z_list (nog_nil), (fld_cons (fc_cons ⟨CL_Room, na_Room_pages⟩ fc_nil) (fld_cons (fc_cons ⟨CL_Page, na_Page_holders⟩ fc_nil) (fld_cons (fc_cons ⟨CL_Room, na_Room_many⟩ fc_nil) (fld_cons (fc_cons ⟨CL_Room, na_Room_width⟩ fc_nil) fld_nil)))), mth_nil, ic_nil, isOk0, ln_nil, eo_nil, es_nil⟩ (ir_ok_Room_twin (⟨k_Room, k_Page, k_Room + 1, 0, (Nat.succ_ne_self _).symm⟩ : Cn)) (w_Room_twin (⟨k_Room, k_Page, k_Room + 1, 0, (Nat.succ_ne_self _).symm⟩ : Cn))
    have S_Room_twin : SF l.prog w K mg base 5 a_Room_twin (sp_Room_twin (⟨k_Room, k_Page, k_Room + 1, 0, (Nat.succ_ne_self _).symm⟩ : Cn)) 1 [] := sf_mk O_Room_twin (Nat.le_refl _) b_Room_twin
    have O_law_twin_5e11 : FnOk l.prog w K mg base CX0 6 a_law_twin_5e11 _ ["_law_house", "_law_which"] (simSp K 2 (sp_law_twin_5e11 (⟨k_Room, k_Page, k_Room + 1, 0, (Nat.succ_ne_self _).symm⟩ : Cn))) := fn_ok 60 (g := g_law_twin_5e11 (⟨k_Room, k_Page, k_Room + 1, 0, (Nat.succ_ne_self _).symm⟩ : Cn)) F_law_twin_5e11 sc_law_twin_5e11 rfl rfl rfl ⟨tab_nil, nog_cons Z_list (nog_nil), fld_nil, (mth_cons (mt_cons (sm_mk CL_Room ME_Room_twin (S_Room_twin.mono (by decide))) mt_nil) mth_nil), ic_nil, isOk0, ln_nil, eo_nil, es_nil⟩ (ir_ok_law_twin_5e11 (⟨k_Room, k_Page, k_Room + 1, 0, (Nat.succ_ne_self _).symm⟩ : Cn)) (w_law_twin_5e11 (⟨k_Room, k_Page, k_Room + 1, 0, (Nat.succ_ne_self _).symm⟩ : Cn))
    have S_law_twin_5e11 : SF l.prog w K mg base 6 a_law_twin_5e11 (sp_law_twin_5e11 (⟨k_Room, k_Page, k_Room + 1, 0, (Nat.succ_ne_self _).symm⟩ : Cn)) 2 [] := sf_mk O_law_twin_5e11 (Nat.le_refl _) b_law_twin_5e11
    have O_is_whole : FnOk l.prog w K mg base CX0 1 a_is_whole _ ["thing"] (simSp K 1 sp_is_whole) := fn_ok 60 (g := g_is_whole (⟨k_Room, k_Page, k_Room + 1, 0, (Nat.succ_ne_self _).symm⟩ : Cn)) F_is_whole sc_is_whole rfl rfl rfl ⟨tab_nil, nog_cons Z_isinstance (nog_cons Z_bool (nog_cons Z_int (nog_nil))), fld_nil, mth_nil, ic_nil, isOk0, ln_nil, eo_nil, es_nil⟩ (ir_ok_is_whole (⟨k_Room, k_Page, k_Room + 1, 0, (Nat.succ_ne_self _).symm⟩ : Cn)) (w_is_whole)
    have S_is_whole : SF l.prog w K mg base 1 a_is_whole sp_is_whole 1 [] := sf_mk O_is_whole (Nat.le_refl _) b_is_whole
    have O_Room_need : FnOk l.prog w K mg base CX0 2 a_Room_need _ ["self", "cell"] (simSp K 2 (sp_Room_need (⟨k_Room, k_Page, k_Room + 1, 0, (Nat.succ_ne_self _).symm⟩ : Cn))) := fn_ok 60 (g := g_Room_need a_is_whole (⟨k_Room, k_Page, k_Room + 1, 0, (Nat.succ_ne_self _).symm⟩ : Cn)) F_Room_need sc_Room_need rfl rfl rfl ⟨tab_cons (sg_fn M_is_whole k8 (lp_cons (S_is_whole.mono (by decide)) lp_nil) lk_nil) (tab_nil), nog_nil, (fld_cons (fc_cons ⟨CL_Room, na_Room_many⟩ fc_nil) fld_nil), mth_nil, ic_nil, isOk0, ln_nil, eo_nil, es_nil⟩ (ir_ok_Room_need a_is_whole (⟨k_Room, k_Page, k_Room + 1, 0, (Nat.succ_ne_self _).symm⟩ : Cn)) (w_Room_need (⟨k_Room, k_Page, k_Room + 1, 0, (Nat.succ_ne_self _).symm⟩ : Cn))
    have S_Room_need : SF l.prog w K mg base 2 a_Room_need (sp_Room_need (⟨k_Room, k_Page, k_Room + 1, 0, (Nat.succ_ne_self _).symm⟩ : Cn)) 2 [] := sf_mk O_Room_need (Nat.le_refl _) b_Room_need
    have O_Room_read : FnOk l.prog w K mg base CX0 3 a_Room_read _ ["self", "cell"] (simSp K 2 (sp_Room_read (⟨k_Room, k_Page, k_Room + 1, 0, (Nat.succ_ne_self _).symm⟩ : Cn))) := fn_ok 60 (g := g_Room_read (⟨k_Room, k_Page, k_Room + 1, 0, (Nat.succ_ne_self _).symm⟩ : Cn)) F_Room_read sc_Room_read rfl rfl rfl ⟨tab_nil, nog_nil, (fld_cons (fc_cons ⟨CL_Page, na_Page_kept⟩ fc_nil) (fld_cons (fc_cons ⟨CL_Room, na_Room_pages⟩ fc_nil) (fld_cons (fc_cons ⟨CL_Room, na_Room_width⟩ fc_nil) fld_nil))), (mth_cons (mt_cons (sm_mk CL_Room ME_Room_need (S_Room_need.mono (by decide))) mt_nil) mth_nil), ic_nil, isOk0, ln_nil, eo_nil, es_nil⟩ (ir_ok_Room_read (⟨k_Room, k_Page, k_Room + 1, 0, (Nat.succ_ne_self _).symm⟩ : Cn)) (w_Room_read (⟨k_Room, k_Page, k_Room + 1, 0, (Nat.succ_ne_self _).symm⟩ : Cn))
    have S_Room_read : SF l.prog w K mg base 3 a_Room_read (sp_Room_read (⟨k_Room, k_Page, k_Room + 1, 0, (Nat.succ_ne_self _).symm⟩ : Cn)) 2 [] := sf_mk O_Room_read (Nat.le_refl _) b_Room_read
    have O_Room_own_page : FnOk l.prog w K mg base CX0 3 a_Room_own_page _ ["self", "at"] (simSp K 2 (sp_Room_own_page (⟨k_Room, k_Page, k_Room + 1, 0, (Nat.succ_ne_self _).symm⟩ : Cn))) := fn_ok 60 (g := g_Room_own_page (⟨k_Room, k_Page, k_Room + 1, 0, (Nat.succ_ne_self _).symm⟩ : Cn)) F_Room_own_page sc_Room_own_page rfl rfl rfl ⟨tab_cons (sg_cls MC_Page (lp_cons (SN_Page.mono (by decide)) lp_nil) lk_nil) (tab_nil), nog_cons Z_list (nog_nil), (fld_cons (fc_cons ⟨CL_Page, na_Page_holders⟩ fc_nil) (fld_cons (fc_cons ⟨CL_Room, na_Room_copies⟩ fc_nil) (fld_cons (fc_cons ⟨CL_Room, na_Room_pages⟩ fc_nil) (fld_cons (fc_cons ⟨CL_Page, na_Page_kept⟩ fc_nil) fld_nil)))), mth_nil, ic_nil, isOk0, ln_nil, eo_nil, es_nil⟩ (ir_ok_Room_own_page (⟨k_Room, k_Page, k_Room + 1, 0, (Nat.succ_ne_self _).symm⟩ : Cn)) (w_Room_own_page (⟨k_Room, k_Page, k_Room + 1, 0, (Nat.succ_ne_self _).symm⟩ : Cn))
    have S_Room_own_page : SF l.prog w K mg base 3 a_Room_own_page (sp_Room_own_page (⟨k_Room, k_Page, k_Room + 1, 0, (Nat.succ_ne_self _).symm⟩ : Cn)) 2 [] := sf_mk O_Room_own_page (Nat.le_refl _) b_Room_own_page
    have O_Room_write : FnOk l.prog w K mg base CX0 4 a_Room_write _ ["self", "cell", "number"] (simSp K 3 (sp_Room_write (⟨k_Room, k_Page, k_Room + 1, 0, (Nat.succ_ne_self _).symm⟩ : Cn))) := fn_ok 60 (g := g_Room_write (⟨k_Room, k_Page, k_Room + 1, 0, (Nat.succ_ne_self _).symm⟩ : Cn)) F_Room_write sc_Room_write rfl rfl rfl ⟨tab_nil, nog_nil, (fld_cons (fc_cons ⟨CL_Page, na_Page_kept⟩ fc_nil) (fld_cons (fc_cons ⟨CL_Room, na_Room_width⟩ fc_nil) (fld_cons (fc_cons ⟨CL_Room, na_Room_shuts⟩ fc_nil) fld_nil))), (mth_cons (mt_cons (sm_mk CL_Room ME_Room_read (S_Room_read.mono (by decide))) mt_nil) (mth_cons (mt_cons (sm_mk CL_Room ME_Room_own_page (S_Room_own_page.mono (by decide))) mt_nil) (mth_cons (mt_cons (sm_mk CL_Room ME_Room_need (S_Room_need.mono (by decide))) mt_nil) mth_nil))), ic_nil, isOk0, ln_nil, eo_nil, es_nil⟩ (ir_ok_Room_write (⟨k_Room, k_Page, k_Room + 1, 0, (Nat.succ_ne_self _).symm⟩ : Cn)) (w_Room_write (⟨k_Room, k_Page, k_Room + 1, 0, (Nat.succ_ne_self _).symm⟩ : Cn))
    have S_Room_write : SF l.prog w K mg base 4 a_Room_write (sp_Room_write (⟨k_Room, k_Page, k_Room + 1, 0, (Nat.succ_ne_self _).symm⟩ : Cn)) 3 [] := sf_mk O_Room_write (Nat.le_refl _) b_Room_write
    have O_law_write_4795 : FnOk l.prog w K mg base CX0 5 a_law_write_4795 _ ["_law_house", "_law_which", "_law_cell_here", "_law_number"] (simSp K 4 (sp_law_write_4795 (⟨k_Room, k_Page, k_Room + 1, 0, (Nat.succ_ne_self _).symm⟩ : Cn))) := fn_ok 60 (g := g_law_write_4795 (⟨k_Room, k_Page, k_Room + 1, 0, (Nat.succ_ne_self _).symm⟩ : Cn)) F_law_write_4795 sc_law_write_4795 rfl rfl rfl ⟨tab_nil, nog_cons Z_sum (nog_nil), fld_nil, (mth_cons (mt_cons (sm_mk CL_Room ME_Room_write (S_Room_write.mono (by decide))) mt_nil) mth_nil), ic_nil, isOk0, ln_nil, eo_nil, es_nil⟩ (ir_ok_law_write_4795 (⟨k_Room, k_Page, k_Room + 1, 0, (Nat.succ_ne_self _).symm⟩ : Cn)) (w_law_write_4795 (⟨k_Room, k_Page, k_Room + 1, 0, (Nat.succ_ne_self _).symm⟩ : Cn))
    have S_law_write_4795 : SF l.prog w K mg base 5 a_law_write_4795 (sp_law_write_4795 (⟨k_Room, k_Page, k_Room + 1, 0, (Nat.succ_ne_self _).symm⟩ : Cn)) 4 [] := sf_mk O_law_write_4795 (Nat.le_refl _) b_law_write_4795
    have O_law_begun_06ad : FnOk l.prog w K mg base CX0 5 a_law_begun_06ad _ ["_law_bag_here", "_law_house"] (simSp K 2 (sp_law_begun_06ad (⟨k_Room, k_Page, k_Room + 1, 0, (Nat.succ_ne_self _).symm⟩ : Cn))) := fn_ok 60 (g := g_law_begun_06ad a_law_take_6e13 (⟨k_Room, k_Page, k_Room + 1, 0, (Nat.succ_ne_self _).symm⟩ : Cn)) F_law_begun_06ad sc_law_begun_06ad rfl rfl rfl ⟨tab_cons (sg_fn M_law_take_6e13 k0 (lp_cons (S_law_take_6e13.mono (by decide)) lp_nil) lk_nil) (tab_cons (sg_cls MC_Room lp_nil (lk_cons (SNK_Room_0.mono (by decide)) lk_nil)) (tab_nil)), nog_cons Z_range (nog_cons Z_len (nog_nil)), fld_nil, mth_nil, ic_nil, isOk0, ln_nil, eo_nil, es_nil⟩ (ir_ok_law_begun_06ad a_law_take_6e13 (⟨k_Room, k_Page, k_Room + 1, 0, (Nat.succ_ne_self _).symm⟩ : Cn)) (w_law_begun_06ad (⟨k_Room, k_Page, k_Room + 1, 0, (Nat.succ_ne_self _).symm⟩ : Cn))
    have S_law_begun_06ad : SF l.prog w K mg base 5 a_law_begun_06ad (sp_law_begun_06ad (⟨k_Room, k_Page, k_Room + 1, 0, (Nat.succ_ne_self _).symm⟩ : Cn)) 2 [] := sf_mk O_law_begun_06ad (Nat.le_refl _) b_law_begun_06ad
    have O_law_cell : FnOk l.prog w K mg base CX0 1 a_law_cell _ ["_law_script", "_law_k"] (simSp K 2 sp_law_cell) := fn_ok 60 (g := g_law_cell (⟨k_Room, k_Page, k_Room + 1, 0, (Nat.succ_ne_self _).symm⟩ : Cn)) F_law_cell sc_law_cell rfl rfl rfl ⟨tab_nil, nog_cons Z_len (nog_nil), fld_nil, mth_nil, ic_nil, isOk0, ln_nil, eo_nil, es_nil⟩ (ir_ok_law_cell (⟨k_Room, k_Page, k_Room + 1, 0, (Nat.succ_ne_self _).symm⟩ : Cn)) (w_law_cell)
    have S_law_cell : SF l.prog w K mg base 1 a_law_cell sp_law_cell 2 [] := sf_mk O_law_cell (Nat.le_refl _) b_law_cell
    have O_law_bag_c7a2 : FnOk l.prog w K mg base CX0 2 a_law_bag_c7a2 _ ["_law_script", "_law_at"] (simSp K 2 sp_law_bag_c7a2) := fn_ok 60 (g := g_law_bag_c7a2 a_law_cell (⟨k_Room, k_Page, k_Room + 1, 0, (Nat.succ_ne_self _).symm⟩ : Cn)) F_law_bag_c7a2 sc_law_bag_c7a2 rfl rfl rfl ⟨tab_cons (sg_fn M_law_cell k15 (lp_cons (S_law_cell.mono (by decide)) lp_nil) lk_nil) (tab_nil), nog_cons Z_range (nog_cons Z_min (nog_cons Z_len (nog_cons Z_abs (nog_nil)))), fld_nil, mth_nil, ic_nil, isOk0, ln_nil, eo_nil, es_nil⟩ (ir_ok_law_bag_c7a2 a_law_cell (⟨k_Room, k_Page, k_Room + 1, 0, (Nat.succ_ne_self _).symm⟩ : Cn)) (w_law_bag_c7a2)
    have S_law_bag_c7a2 : SF l.prog w K mg base 2 a_law_bag_c7a2 sp_law_bag_c7a2 2 [] := sf_mk O_law_bag_c7a2 (Nat.le_refl _) b_law_bag_c7a2
    have O_Room_numbers : FnOk l.prog w K mg base CX0 1 a_Room_numbers _ ["self"] (simSp K 1 (sp_Room_numbers (⟨k_Room, k_Page, k_Room + 1, 0, (Nat.succ_ne_self _).symm⟩ : Cn))) := fn_ok 60 (g := g_Room_numbers (⟨k_Room, k_Page, k_Room + 1, 0, (Nat.succ_ne_self _).symm⟩ : Cn)) F_Room_numbers sc_Room_numbers rfl rfl rfl ⟨tab_nil, nog_nil, (fld_cons (fc_cons ⟨CL_Room, na_Room_pages⟩ fc_nil) (fld_cons (fc_cons ⟨CL_Page, na_Page_kept⟩ fc_nil) fld_nil)), mth_nil, ic_nil, isOk0, ln_nil, eo_nil, es_nil⟩ (ir_ok_Room_numbers (⟨k_Room, k_Page, k_Room + 1, 0, (Nat.succ_ne_self _).symm⟩ : Cn)) (w_Room_numbers (⟨k_Room, k_Page, k_Room + 1, 0, (Nat.succ_ne_self _).symm⟩ : Cn))
    have S_Room_numbers : SF l.prog w K mg base 1 a_Room_numbers (sp_Room_numbers (⟨k_Room, k_Page, k_Room + 1, 0, (Nat.succ_ne_self _).symm⟩ : Cn)) 1 [] := sf_mk O_Room_numbers (Nat.le_refl _) b_Room_numbers
    have O_law_eb36 : FnOk l.prog w K mg base CX0 7 fa _ ["_law_script"] (simSp K 1 spLaw) := fn_ok 60 (g := g_law_eb36 a_law_take_6e13 a_law_shared_good a_law_twin_5e11 a_law_write_4795 a_law_begun_06ad a_law_bag_c7a2 (⟨k_Room, k_Page, k_Room + 1, 0, (Nat.succ_ne_self _).symm⟩ : Cn)) F_law_eb36 sc_law_eb36 rfl rfl rfl ⟨tab_cons (sg_fn M_law_take_6e13 k0 (lp_cons (S_law_take_6e13.mono (by decide)) lp_nil) lk_nil) (tab_cons (sg_fn M_law_shared_good k3 (lp_cons (S_law_shared_good.mono (by decide)) lp_nil) lk_nil) (tab_cons (sg_fn M_law_twin_5e11 k7 (lp_cons (S_law_twin_5e11.mono (by decide)) lp_nil) lk_nil) (tab_cons (sg_fn M_law_write_4795 k13 (lp_cons (S_law_write_4795.mono (by decide)) lp_nil) lk_nil) (tab_cons (sg_fn M_law_begun_06ad k14 (lp_cons (S_law_begun_06ad.mono (by decide)) lp_nil) lk_nil) (tab_cons (sg_fn M_law_bag_c7a2 k16 (lp_cons (S_law_bag_c7a2.mono (by decide)) lp_nil) lk_nil) (tab_nil)))))), nog_cons Z_range (nog_cons Z_max (nog_cons Z_min (nog_cons Z_len (nog_cons Z_int (nog_nil))))), fld_nil, (mth_cons (mt_cons (sm_mk CL_Room ME_Room_numbers (S_Room_numbers.mono (by decide))) mt_nil) mth_nil), ic_nil, isOk0, ln_nil, eo_nil, es_nil⟩ (ir_ok_law_eb36 a_law_take_6e13 a_law_shared_good a_law_twin_5e11 a_law_write_4795 a_law_begun_06ad a_law_bag_c7a2 (⟨k_Room, k_Page, k_Room + 1, 0, (Nat.succ_ne_self _).symm⟩ : Cn)) (w_law_eb36 (⟨k_Room, k_Page, k_Room + 1, 0, (Nat.succ_ne_self _).symm⟩ : Cn))
    exact O_law_eb36
end K09
open PySem PySem.W PyProof.Rows
set_option maxRecDepth 100000 in
set_option maxHeartbeats 0 in
theorem PySem.Challenge.cw_viewgrid_k09_pages_shared_holds : PySem.Challenge.rw_viewgrid_k09_pages_shared.Holds := by
  w_on; o_law; k_head; (case hw => w_witness2)
  k_fill
  refine G.walkG (l := PySem.Challenge.rw_viewgrid_k09_pages_shared) (k := 7) (x := "_law_script") (sp := G.spLaw) rfl rfl (by decide) (fun w h Y => PySem.W.kIn_of Y) ?L ?F ?S
  case S => exact G.law_sp
  case L => exact fun w => G.noList_of (by first | rfl | k_is)
  case F =>
    intro w mg fa h KX G hmg
    refine' K09.all_mk KX G hmg ?cm_Room ?cp_Room ?ch_Room ?co_Room ?cs_Room ?cm_Page ?cp_Page ?ch_Page ?co_Page ?cs_Page ?ck_Room ?cq_Room ?ck_Page ?cq_Page ?et_Page ?en_Page ?ee_Page ?na_Room_pages ?na_Page_holders ?na_Page_kept ?na_Room_shuts ?na_Room_copies ?na_Room_width ?na_Room_many ?m0 ?l0 ?c0 ?k0 ?m1 ?l1 ?c1 ?k1 ?m2 ?f2 ?l2 ?c2 ?k2 ?m3 ?l3 ?c3 ?k3 ?m4 ?f4 ?l4 ?c4 ?k4 ?m5 ?f5 ?l5 ?c5 ?k5 ?d5 ?q5_page ?w_5_0 ?m6 ?f6 ?l6 ?c6 ?k6 ?m7 ?l7 ?c7 ?k7 ?m8 ?l8 ?c8 ?k8 ?m9 ?f9 ?l9 ?c9 ?k9 ?m10 ?f10 ?l10 ?c10 ?k10 ?m11 ?f11 ?l11 ?c11 ?k11 ?m12 ?f12 ?l12 ?c12 ?k12 ?m13 ?l13 ?c13 ?k13 ?m14 ?l14 ?c14 ?k14 ?m15 ?l15 ?c15 ?k15 ?m16 ?l16 ?c16 ?k16 ?m17 ?f17 ?l17 ?c17 ?k17 ?m18 ?l18 ?c18 ?k18 ?z_isinstance ?z_bool ?z_int ?z_enumerate ?z_zip ?z_all ?z_list ?z_range ?z_len ?z_sum ?z_min ?z_abs ?z_max
    (case cm_Room => k_is)
    (case cp_Room => k_is)
    (case ch_Room => k_is)
    (case co_Room => k_is)
    (case cs_Room => k_is)
    (case cm_Page => k_is)
    (case cp_Page => k_is)
    (case ch_Page => k_is)
    (case co_Page => k_is)
    (case cs_Page => k_is)
    (case ck_Room => k_is)
    (case cq_Room => k_is)
    (case ck_Page => k_is)
    (case cq_Page => k_is)
    (case et_Page => k_is)
    (case en_Page => k_is)
    (case ee_Page => k_is)
    (case na_Room_pages => k_is)
    (case na_Page_holders => k_is)
    (case na_Page_kept => k_is)
    (case na_Room_shuts => k_is)
    (case na_Room_copies => k_is)
    (case na_Room_width => k_is)
    (case na_Room_many => k_is)
    (case m0 => k_is)
    (case l0 => k_is)
    (case c0 => k_is)
    (case k0 => k_is)
    (case m1 => k_is)
    (case l1 => k_is)
    (case c1 => k_is)
    (case k1 => k_is)
    (case m2 => k_is)
    (case f2 => k_is)
    (case l2 => k_is)
    (case c2 => k_is)
    (case k2 => k_is)
    (case m3 => k_is)
    (case l3 => k_is)
    (case c3 => k_is)
    (case k3 => k_is)
    (case m4 => k_is)
    (case f4 => k_is)
    (case l4 => k_is)
    (case c4 => k_is)
    (case k4 => k_is)
    (case m5 => k_is)
    (case f5 => k_is)
    (case l5 => k_is)
    (case c5 => k_is)
    (case k5 => k_is)
    (case d5 => k_is)
    (case q5_page => k_is)
    (case w_5_0 => k_is)
    (case m6 => k_is)
    (case f6 => k_is)
    (case l6 => k_is)
    (case c6 => k_is)
    (case k6 => k_is)
    (case m7 => k_is)
    (case l7 => k_is)
    (case c7 => k_is)
    (case k7 => k_is)
    (case m8 => k_is)
    (case l8 => k_is)
    (case c8 => k_is)
    (case k8 => k_is)
    (case m9 => k_is)
    (case f9 => k_is)
    (case l9 => k_is)
    (case c9 => k_is)
    (case k9 => k_is)
    (case m10 => k_is)
    (case f10 => k_is)
    (case l10 => k_is)
    (case c10 => k_is)
    (case k10 => k_is)
    (case m11 => k_is)
    (case f11 => k_is)
    (case l11 => k_is)
    (case c11 => k_is)
    (case k11 => k_is)
    (case m12 => k_is)
    (case f12 => k_is)
    (case l12 => k_is)
    (case c12 => k_is)
    (case k12 => k_is)
    (case m13 => k_is)
    (case l13 => k_is)
    (case c13 => k_is)
    (case k13 => k_is)
    (case m14 => k_is)
    (case l14 => k_is)
    (case c14 => k_is)
    (case k14 => k_is)
    (case m15 => k_is)
    (case l15 => k_is)
    (case c15 => k_is)
    (case k15 => k_is)
    (case m16 => k_is)
    (case l16 => k_is)
    (case c16 => k_is)
    (case k16 => k_is)
    (case m17 => k_is)
    (case f17 => k_is)
    (case l17 => k_is)
    (case c17 => k_is)
    (case k17 => k_is)
    (case m18 => k_is)
    (case l18 => k_is)
    (case c18 => k_is)
    (case k18 => k_is)
    (case z_isinstance => k_is)
    (case z_bool => k_is)
    (case z_int => k_is)
    (case z_enumerate => k_is)
    (case z_zip => k_is)
    (case z_all => k_is)
    (case z_list => k_is)
    (case z_range => k_is)
    (case z_len => k_is)
    (case z_sum => k_is)
    (case z_min => k_is)
    (case z_abs => k_is)
    (case z_max => k_is)
