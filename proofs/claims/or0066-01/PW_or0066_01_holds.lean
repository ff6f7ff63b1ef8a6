import PyProof.Rows.All
import Wide.All
import OpenK.AllK
import Wide.FinOn
import KE.KDictOf
import Lean
import PySem.Challenge.RW_or0066_01
set_option bootstrap.genMatcherCode false
set_option linter.all false
local macro_rules | `(tactic| omega) => `(tactic| first | lia | omega (splitDisjunctions := true))
section
open PySem PySem.W PyProof.Rows PySem.Calls
set_option Elab.async false
set_option autoImplicit false
set_option genSizeOfSpec false
set_option genSizeOf false
namespace Mine

/-- plain data without heap -/
inductive Sc where
  | none | bool (b : Bool) | int (i : Int) | str (l : List Nat) | bytes (l : List Nat)

@[irreducible] noncomputable def lim : Nat := 65536

noncomputable def Sc.of : Value → Option Sc
  | .none => some .none
  | .bool b => some (.bool b)
  | .int i _ => some (.int i)
  | .str s _ => if s.cps.size ≤ lim then some (.str s.cps.toList) else Option.none
  | .bytes b _ => if b.size ≤ lim then some (.bytes (b.toList.map UInt8.toNat)) else Option.none
  | _ => Option.none

inductive PV where
  | sc (c : Sc) | tup (l : List Sc) | lst (l : List Sc) | lstT (l : List (List Sc)) | rng (a b c : Int)
  | dctS (d : List (List Nat × Sc)) | dctI (d : List (Int × Sc))
  | pen (p : Nat) (cs : List Int) (a b : Int)

inductive Slot where
  | un | val (p : PV) | own (p : PV)

inductive BOp where
  | add | sub | mul | fdiv | mod | shl | shr | band | pow
inductive COp where
  | eq | ne | lt | le | gt | ge | isin | notin | is | isnot
/-- builtin functions -/
inductive Bi where
  | len | ord | chr | bytes | range | max | min | dict | int | sum | abs
/-- methods -/
inductive Me where
  | join | strip | split | upper | count | get

set_option genCtorIdx false
set_option genInjectivity false
mutual
inductive E where
  | k (c : Sc)
  | var (i : Nat)
  | glob (g : Nat)
  | bin (o : BOp) (l r : E)
  | neg (e : E)
  | notE (e : E)
  | andE (es : Es)
  | orE (es : Es)
  | cmp (o : COp) (l r : E)
  | cmp2 (o1 o2 : COp) (a b c : E)
  | ite (t a b : E)
  | call (f : Nat) (as : Es)
  | bi (b : Bi) (as : Es)
  | meth (m : Me) (o : E) (as : Es)
  | idx (o i : E)
  | sl0 (o b : E)
  | sl1 (o a : E)
  | sl2 (o a b : E)
  | tup (es : Es)
  | lst (es : Es)
  | comp (c : Nat) (elt it : E) (cond : Es)
  | dget (ks : List (Int × Int)) (i d : E)
inductive Es where
  | nil
  | cons (e : E) (r : Es)
end

mutual
inductive S where
  | assign (i : Nat) (e : E)
  | new (i : Nat) (es : Es)
  | newD (i : Nat)
  | unpack (is : List Nat) (e : E)
  | append (i : Nat) (e : E)
  | extend (i : Nat) (e : E)
  | insert0 (i : Nat) (e : E)
  | setd (i : Nat) (k e : E)
  | iff (c : E) (a b : Ss)
  | whil (c : E) (b : Ss)
  | for_ (i : Nat) (e : E) (b : Ss)
  | ret (e : E)
  | drop (e : E)
  | cont
  | brk
  | try_ (b : Ss)
  | raise
inductive Ss where
  | nil
  | cons (s : S) (r : Ss)
end

set_option genCtorIdx true
set_option genInjectivity true
/-! ## the meaning -/
noncomputable def Sc.i? : Sc → Option Int
  | .int i => some i
  | _ => Option.none
noncomputable def Sc.s? : Sc → Option (List Nat)
  | .str l => some l
  | _ => Option.none
noncomputable def Sc.b? : Sc → Option (List Nat)
  | .bytes l => some l
  | _ => Option.none
noncomputable def Sc.t? : Sc → Option Bool
  | .bool b => some b
  | _ => Option.none
noncomputable def PV.c? : PV → Option Sc
  | .sc c => some c
  | _ => none
noncomputable def PV.l? : PV → Option (List Sc)
  | .lst l => some l
  | _ => none
noncomputable def PV.m? : PV → Option (List (List Sc))
  | .lstT l => some l
  | _ => none
noncomputable def PV.u? : PV → Option (List Sc)
  | .tup l => some l
  | _ => none
noncomputable def PV.r? : PV → Option (Int × Int × Int)
  | .rng a b c => some (a, b, c)
  | _ => none
noncomputable def PV.ds? : PV → Option (List (List Nat × Sc))
  | .dctS d => some d
  | _ => none
noncomputable def PV.di? : PV → Option (List (Int × Sc))
  | .dctI d => some d
  | _ => none
noncomputable def PV.p? : PV → Option (Nat × List Int × Int × Int)
  | .pen p cs a b => some (p, cs, a, b)
  | _ => none
/-- this, or else -/
noncomputable def one {α β : Type} (x : Option α) (f : α → Option β) (d : Option β) : Option β := match x with
  | some a => f a
  | none => d
noncomputable def onC {β : Type} (p : PV) (f : Sc → Option β) (d : Option β) : Option β := one p.c? f d
noncomputable def onI {β : Type} (p : PV) (f : Int → Option β) (d : Option β) : Option β := one (match p.c? with | some c => c.i? | none => none) f d
noncomputable def onS {β : Type} (p : PV) (f : List Nat → Option β) (d : Option β) : Option β := one (match p.c? with | some c => c.s? | none => none) f d
noncomputable def onB {β : Type} (p : PV) (f : List Nat → Option β) (d : Option β) : Option β := one (match p.c? with | some c => c.b? | none => none) f d
noncomputable def sing {α : Type} : List α → Option α
  | [a] => some a
  | _ => none
noncomputable def arg1 {β : Type} (f : PV → Option β) : List PV → Option β
  | [] => none
  | p :: r => match r with
    | [] => f p
    | _ => none
noncomputable def arg2 {β : Type} (f : PV → PV → Option β) : List PV → Option β
  | [] => none
  | p :: r => arg1 (f p) r
noncomputable def iff' {β : Type} (c : Bool) (x : Option β) : Option β := match c with
  | true => x
  | false => none
noncomputable def mkS (l : List Nat) : Option PV := if l.length ≤ lim then some (.sc (.str l)) else none
noncomputable def mkB (l : List Nat) : Option PV := if l.length ≤ lim then some (.sc (.bytes l)) else none
noncomputable def mkL (l : List Sc) : Option PV := if l.length ≤ lim then some (.lst l) else none
noncomputable def mkLT (l : List (List Sc)) : Option PV := if l.length ≤ lim then some (.lstT l) else none

noncomputable def iop (o : BOp) (a b : Int) : Option Int := match o with
  | .add => some (a + b)
  | .sub => some (a - b)
  | .mul => if b.natAbs < 2 ^ 63 ∨ a.natAbs < 2 ^ 63 then some (a * b) else none
  | .fdiv => if b ≠ 0 ∧ b.natAbs < 1073741824 then some (Int.fdiv a b) else none
  | .mod => if b ≠ 0 then some (Int.fmod a b) else none
  | .shl => if 0 ≤ b ∧ b ≤ 1000000 ∧ a.natAbs < 2 ^ 64 then some (a * 2 ^ b.toNat) else none
  | .shr => if 0 ≤ b then some (Int.fdiv a (2 ^ b.toNat)) else none
  | .band => some (Builtin.bitAnd a b)
  | .pow => if 0 ≤ b ∧ b ≤ 1000000 ∧ a.natAbs < 2 ^ 64 then some (a ^ b.toNat) else none
noncomputable def BOp.isAdd : BOp → Bool
  | .add => true
  | _ => false
noncomputable def BOp.isMul : BOp → Bool
  | .mul => true
  | _ => false
noncomputable def bop (o : BOp) (p q : PV) : Option PV :=
  onI p (fun a => onI q (fun b => (iop o a b).map fun i => .sc (.int i)) none) <|
  onS p (fun a => onS q (fun b => iff' o.isAdd (mkS (a ++ b))) none) <|
  onB p (fun a => onB q (fun b => iff' o.isAdd (mkB (a ++ b))) none) <|
  one p.l? (fun a => one q.l? (fun b => iff' o.isAdd (mkL (a ++ b))) (onI q (fun n => iff' o.isMul (if a.length * n.toNat ≤ lim ∧ n.natAbs ≤ lim then some (.lst (List.replicate n.toNat a).flatten) else none)) none)) <|
  one p.m? (fun a => one q.m? (fun b => iff' o.isAdd (mkLT (a ++ b))) none) none

noncomputable def scEq (x y : Sc) : Option Bool :=
  one x.i? (fun a => one y.i? (fun b => some (a == b)) none) <|
  one x.s? (fun a => one y.s? (fun b => some (a == b)) none) <|
  one x.b? (fun a => one y.b? (fun b => some (a == b)) none) none
noncomputable def pair? (l : List Sc) : Option (Int × Int) := match l with
  | [] => none
  | x :: r => one x.i? (fun a => one (sing r) (fun y => one y.i? (fun b => some (a, b)) none) none) none
noncomputable def pvEqT (p q : PV) : Option Bool :=
  onC p (fun a => onC q (fun b => scEq a b) none) <|
  one p.u? (fun a => one q.u? (fun b => one (pair? a) (fun x => one (pair? b) (fun y => some (x.1 == y.1 && x.2 == y.2)) none) none) none) <|
  one p.l? (fun a => one q.l? (fun b => iff' b.isEmpty (some a.isEmpty)) none) none
noncomputable def pvEq (p q : PV) : Option Bool := one p.m? (fun a => one q.l? (fun b => iff' b.isEmpty (some a.isEmpty)) none) (pvEqT p q)
noncomputable def isinL : Sc → List Sc → Option Bool
  | _, [] => some false
  | a, b :: r => (scEq b a).bind fun q => (isinL a r).map (q || ·)
noncomputable def pvIn (p q : PV) : Option Bool :=
  onC p (fun a => one q.u? (fun l => isinL a l) <| one a.i? (fun i => onB q (fun l => if 0 ≤ i ∧ i < 256 then some (l.contains i.toNat) else none) <| one q.di? (fun d => some (d.lookup i).isSome) none) none) none
noncomputable def Sc.nil : Sc → Bool
  | .none => true
  | _ => false
noncomputable def isNone : PV → Bool
  | .sc c => c.nil
  | _ => false
noncomputable def ordI (o : COp) (a b : Int) : Option Bool := match o with
  | .lt => some (decide (a < b))
  | .le => some (decide (a ≤ b))
  | .gt => some (decide (b < a))
  | .ge => some (decide (b ≤ a))
  | _ => none
noncomputable def COp.isLe : COp → Bool
  | .le => true
  | _ => false
noncomputable def ordV (o : COp) (p q : PV) : Option Bool :=
  onI p (fun a => onI q (fun b => ordI o a b) none) <|
  onS p (fun a => onS q (fun b => one (sing a) (fun x => one (sing b) (fun y => iff' o.isLe (some (decide (x ≤ y)))) none) none) none) none
noncomputable def isV (q p : PV) : Option Bool := iff' (isNone q) (match isNone p with
  | true => some true
  | false => one p.u? (fun _ => some false) none)
noncomputable def cop (o : COp) (p q : PV) : Option Bool := match o with
  | .eq => pvEq p q
  | .ne => (pvEqT p q).map (!·)
  | .isin => pvIn p q
  | .notin => (pvIn p q).map (!·)
  | .is => isV q p
  | .isnot => (isV q p).map (!·)
  | o => ordV o p q

/-- the place that an index names -/
noncomputable def pos (n : Nat) (i : Int) : Option Nat := if -(2 ^ 62) < i ∧ i < 2 ^ 62 then seqIndex? i n else none
noncomputable def index (p q : PV) : Option PV := onI q (fun i =>
  onS p (fun l => (pos l.length i).bind fun k => (l[k]?).map fun c => .sc (.str [c])) <|
  onB p (fun l => (pos l.length i).bind fun k => (l[k]?).map fun (c : Nat) => .sc (.int (c : Int))) <|
  one p.l? (fun l => (pos l.length i).bind fun k => (l[k]?).map .sc) <|
  one p.u? (fun l => (pos l.length i).bind fun k => (l[k]?).map .sc) <|
  one p.m? (fun l => (pos l.length i).bind fun k => (l[k]?).map .tup) <|
  one p.di? (fun d => (d.lookup i).map .sc) <|
  one p.p? (fun x => if i = 0 then some (.lst (x.2.1.map .int)) else if i = 1 then some (.sc (.int x.2.2.1)) else if i = 2 then some (.sc (.int x.2.2.2)) else none) none) none

noncomputable def cutL {α : Type} (l : List α) (lo hi : Option Int) : List α :=
  (l.drop (lo.elim 0 (clipAt l.length))).take (hi.elim l.length (clipAt l.length) - lo.elim 0 (clipAt l.length))
noncomputable def okPart : Option Int → Bool
  | none => true
  | some i => decide (-(2 ^ 62) < i) && decide (i < 2 ^ 62)
noncomputable def slice (p : PV) (lo hi : Option Int) : Option PV :=
  iff' (okPart lo && okPart hi) <|
  onS p (fun l => some (.sc (.str (cutL l lo hi)))) <|
  onB p (fun l => some (.sc (.bytes (cutL l lo hi)))) <|
  one p.l? (fun l => some (.lst (cutL l lo hi))) none

noncomputable def rangeL (a b c : Int) : List Sc := (List.range (Builtin.Range.rangeSize a b c).toNat).map fun (i : Nat) => .int (a + (i : Int) * c)

noncomputable def smallI (i : Int) : Bool := decide (i.natAbs < 2 ^ 40)
noncomputable def items (p : PV) : Option (List Sc) :=
  onS p (fun l => some (l.map fun c => .str [c])) <|
  onB p (fun l => some (l.map fun (c : Nat) => .int c)) <|
  one p.u? some <| one p.l? some <|
  one p.r? (fun x => if smallI x.1 ∧ smallI x.2.1 ∧ smallI x.2.2 ∧ x.2.2 ≠ 0 then some (rangeL x.1 x.2.1 x.2.2) else none) none

noncomputable def toBytes : List Sc → Option (List Nat)
  | [] => some []
  | .int i :: r => if 0 ≤ i ∧ i < 256 then (toBytes r).map (i.toNat :: ·) else none
  | _ => none
noncomputable def toStrs : List Sc → Option (List (List Nat))
  | [] => some []
  | .str s :: r => (toStrs r).map (s :: ·)
  | _ => none
noncomputable def toByts : List Sc → Option (List (List Nat))
  | [] => some []
  | .bytes s :: r => (toByts r).map (s :: ·)
  | _ => none
noncomputable def joinL (sep : List Nat) : List (List Nat) → List Nat
  | [] => []
  | [x] => x
  | x :: r => x ++ sep ++ joinL sep r

noncomputable def intsOf : List Sc → Option (List Int)
  | [] => some []
  | .int i :: r => (intsOf r).map (i :: ·)
  | _ => none
noncomputable def biF (b : Bi) (ps : List PV) : Option PV := match b with
  | .len => arg1 (fun p => onS p (fun l => some (.sc (.int l.length))) <| onB p (fun l => some (.sc (.int l.length))) <| one p.l? (fun l => some (.sc (.int l.length))) <| one p.m? (fun l => some (.sc (.int l.length))) none) ps
  | .ord => arg1 (fun p => onS p (fun l => one (sing l) (fun c => some (.sc (.int c))) none) none) ps
  | .chr => arg1 (fun p => onI p (fun i => if 0 ≤ i ∧ i < 1114112 then some (.sc (.str [i.toNat])) else none) none) ps
  | .bytes => arg1 (fun p => one p.l? (fun l => (toBytes l).map fun b => .sc (.bytes b)) none) ps
  | .range => match ps with
    | [] => none
    | p :: r => onI p (fun a => match r with
      | [] => if smallI a then some (.rng 0 a 1) else none
      | q :: r => onI q (fun b => match r with
        | [] => if smallI a ∧ smallI b then some (.rng a b 1) else none
        | t :: r => onI t (fun c => match r with
          | [] => if smallI a ∧ smallI b ∧ smallI c ∧ c ≠ 0 then some (.rng a b c) else none
          | _ :: _ => none) none) none) none
  | .max => arg2 (fun p q => onI p (fun a => onI q (fun b => some (.sc (.int (if a < b then b else a)))) none) none) ps
  | .min => arg2 (fun p q => onI p (fun a => onI q (fun b => some (.sc (.int (if b < a then b else a)))) none) none) ps
  | .int => arg1 (fun p => onI p (fun a => some (.sc (.int a))) <| onC p (fun c => one c.t? (fun b => some (.sc (.int (if b then 1 else 0)))) none) none) ps
  | .abs => arg1 (fun p => onI p (fun a => some (.sc (.int (if a < 0 then -a else a)))) none) ps
  | .sum => arg1 (fun p => one p.l? (fun l => (intsOf l).map fun ns => .sc (.int ns.sum)) none) ps
  | .dict => none

/-- the parts of a list between places that hold c -/
noncomputable def splitL (c : Nat) : List Nat → List (List Nat)
  | [] => [[]]
  | x :: r => if x = c then [] :: splitL c r else match splitL c r with
    | [] => [[x]]
    | y :: ys => (x :: y) :: ys
noncomputable def stripL (c : Nat) (l : List Nat) : List Nat := ((l.dropWhile (· == c)).reverse.dropWhile (· == c)).reverse
noncomputable def upperC (c : Nat) : Nat := if 97 ≤ c ∧ c ≤ 122 then c - 32 else c
noncomputable def meF (m : Me) (o : PV) (ps : List PV) : Option PV := match m with
  | .join => arg1 (fun p => one p.l? (fun l => onS o (fun sep => (toStrs l).bind fun xs => mkS (joinL sep xs)) <| onB o (fun sep => (toByts l).bind fun xs => mkB (joinL sep xs)) none) none) ps
  | .strip => arg1 (fun p => onS p (fun x => onS o (fun l => one (sing x) (fun c => if c = 32 then some (.sc (.str (stripL 32 l))) else none) none) none) none) ps
  | .split => arg1 (fun p => onS p (fun x => onS o (fun l => one (sing x) (fun c => if l.contains c then none else some (.lst [.str l])) none) none) <|
      onB p (fun x => onB o (fun l => one (sing x) (fun c => mkL ((splitL c l).map .bytes)) none) none) none) ps
  | .upper => match ps with
    | [] => onS o (fun l => if l.all (· < 128) then some (.sc (.str (l.map upperC))) else none) none
    | _ :: _ => none
  | .count => arg1 (fun p => onB p (fun x => onB o (fun l => one (sing x) (fun c => some (.sc (.int (l.filter (· == c)).length))) none) none) none) ps
  | .get => arg2 (fun k v => one o.ds? (fun d => onS k (fun k => onC v (fun v => some (.sc ((d.reverse.lookup k).getD v))) none) none) none) ps

noncomputable def asSc (p : PV) : Option Sc := p.c?
noncomputable def asBool (p : PV) : Option Bool := onC p (fun c => c.t?) none
noncomputable def scs : List PV → Option (List Sc)
  | [] => some []
  | p :: r => (asSc p).bind fun c => (scs r).map (c :: ·)
noncomputable def asInt (p : PV) : Option Int := onI p some none
noncomputable def compGo (t : Sc → Option Bool) (f : Sc → Option Sc) : List Sc → Option (List Sc)
  | [] => some []
  | x :: r => (t x).bind fun b => if b then (f x).bind fun y => (compGo t f r).map (y :: ·) else compGo t f r

/-- what may be kept -/
noncomputable def PV.many : PV → Bool
  | .tup _ | .lstT _ => true
  | _ => false
noncomputable def flt (tmp : Bool) (r : PV) : Option PV := match tmp with
  | true => some r
  | false => iff' (!r.many) (some r)
noncomputable def fltI (tmp : Bool) (r : PV) : Option PV := match tmp with
  | true => some r
  | false => onC r (fun c => some (.sc c)) none
noncomputable def valS : Option Slot → Option PV
  | some (.val p) => some p
  | _ => none
noncomputable def ownS : Option Slot → Option PV
  | some (.own p) => some p
  | _ => none
noncomputable abbrev Fns := Nat → List PV → Option PV
noncomputable abbrev Gls := Nat → Option PV

mutual
noncomputable def ev (F : Fns) (G : Gls) (tmp : Bool) (ρ : List Slot) : E → Option PV
  | .k c => some (.sc c)
  | .var i => one (valS ρ[i]?) some (iff' tmp (ownS ρ[i]?))
  | .glob g => G g
  | .bin o l r => (ev F G true ρ l).bind fun p => (ev F G true ρ r).bind fun q => (bop o p q).bind (flt tmp)
  | .neg e => (ev F G true ρ e).bind fun p => (asInt p).map fun i => .sc (.int (-i))
  | .notE _ => none
  | .andE es => (andV F G ρ es).map fun b => .sc (.bool b)
  | .orE es => (orV F G ρ es).map fun b => .sc (.bool b)
  | .cmp o l r => (ev F G true ρ l).bind fun p => (ev F G true ρ r).bind fun q => (cop o p q).map fun b => .sc (.bool b)
  | .cmp2 o1 o2 a b c => (ev F G true ρ a).bind fun p => (ev F G true ρ b).bind fun q => (cop o1 p q).bind fun t =>
      if t then (ev F G true ρ c).bind fun r => (cop o2 q r).map fun b => .sc (.bool b) else some (.sc (.bool false))
  | .ite t a b => (tst F G ρ t).bind fun c => if c then ev F G tmp ρ a else ev F G tmp ρ b
  | .call f as => (evs F G false ρ as).bind fun ps => F f ps
  | .bi b as => (evs F G true ρ as).bind fun ps => biF b ps
  | .meth m o as => (ev F G true ρ o).bind fun p => (evs F G true ρ as).bind fun ps => meF m p ps
  | .idx o i => (ev F G true ρ o).bind fun p => (ev F G true ρ i).bind fun q => (index p q).bind (fltI tmp)
  | .sl0 o b => (ev F G true ρ o).bind fun p => (ev F G true ρ b).bind fun q => (asInt q).bind fun j => slice p none (some j)
  | .sl1 o a => (ev F G true ρ o).bind fun p => (ev F G true ρ a).bind fun q => (asInt q).bind fun i => slice p (some i) none
  | .sl2 o a b => (ev F G true ρ o).bind fun p => (ev F G true ρ a).bind fun q => (asInt q).bind fun i => (ev F G true ρ b).bind fun q => (asInt q).bind fun j => slice p (some i) (some j)
  | .tup es => (evs F G false ρ es).bind fun ps => (scs ps).bind fun cs => if cs.length ≤ lim then some (.tup cs) else none
  | .lst es => (evs F G false ρ es).bind fun ps => one (arg1 PV.u? ps) (fun l => some (.lstT [l])) ((scs ps).bind mkL)
  | .comp c elt it cond => (ev F G true ρ it).bind fun p => (items p).bind fun xs =>
      if xs.length ≤ lim then (compGo (fun x => andT F G (ρ.set c (.val (.sc x))) cond) (fun x => (ev F G false (ρ.set c (.val (.sc x))) elt).bind asSc) xs).map .lst else none
  | .dget ks i d => (ev F G true ρ i).bind fun p => (asInt p).bind fun i => ((ev F G true ρ d).bind asSc).map fun q => match ks.lookup i with
      | some v => .sc (.int v)
      | none => .sc q
noncomputable def evs (F : Fns) (G : Gls) (tmp : Bool) (ρ : List Slot) : Es → Option (List PV)
  | .nil => some []
  | .cons e r => (ev F G tmp ρ e).bind fun p => (evs F G tmp ρ r).map (p :: ·)
noncomputable def andV (F : Fns) (G : Gls) (ρ : List Slot) : Es → Option Bool
  | .nil => none
  | .cons e .nil => (ev F G true ρ e).bind asBool
  | .cons e r => ((ev F G true ρ e).bind asBool).bind fun b => if b then andV F G ρ r else some false
noncomputable def orV (F : Fns) (G : Gls) (ρ : List Slot) : Es → Option Bool
  | .nil => none
  | .cons e .nil => (ev F G true ρ e).bind asBool
  | .cons e r => ((ev F G true ρ e).bind asBool).bind fun b => if b then some true else orV F G ρ r
noncomputable def tst (F : Fns) (G : Gls) (ρ : List Slot) : E → Option Bool
  | .notE e => (tst F G ρ e).map (!·)
  | .andE es => andT F G ρ es
  | .orE es => orT F G ρ es
  | .cmp o l r => (ev F G true ρ l).bind fun p => (ev F G true ρ r).bind fun q => cop o p q
  | .cmp2 o1 o2 a b c => (ev F G true ρ a).bind fun p => (ev F G true ρ b).bind fun q => (cop o1 p q).bind fun t =>
      if t then (ev F G true ρ c).bind fun r => cop o2 q r else some false
  | .ite t a b => (tst F G ρ t).bind fun c => if c then tst F G ρ a else tst F G ρ b
  | .var i => (valS ρ[i]?).bind asBool
  | .call f as => (evs F G false ρ as).bind fun ps => (F f ps).bind asBool
  | _ => none
noncomputable def andT (F : Fns) (G : Gls) (ρ : List Slot) : Es → Option Bool
  | .nil => some true
  | .cons e r => (tst F G ρ e).bind fun b => if b then andT F G ρ r else some false
noncomputable def orT (F : Fns) (G : Gls) (ρ : List Slot) : Es → Option Bool
  | .nil => some false
  | .cons e r => (tst F G ρ e).bind fun b => if b then some true else orT F G ρ r
end

inductive Out where
  | next | brk | cont | ret (p : PV)

/-- a list of one's own grows -/
noncomputable def grow (p q : PV) : Option PV :=
  one p.l? (fun l => onC q (fun c => mkL (l ++ [c])) <| iff' l.isEmpty <| one q.u? (fun t => some (.lstT [t])) none) <|
  one p.m? (fun l => one q.u? (fun t => mkLT (l ++ [t])) none) none
noncomputable def growAll (p q : PV) : Option PV := one p.l? (fun l => one q.l? (fun r => mkL (l ++ r)) none) none
noncomputable def growAhead (p q : PV) : Option PV := one p.l? (fun l => onC q (fun c => mkL (c :: l)) none) none
noncomputable def store (p k v : PV) : Option PV :=
  one p.ds? (fun d => onS k (fun k => onC v (fun v => if d.length < 1000 then some (.dctS (d ++ [(k, v)])) else none) none) none) <|
  one p.p? (fun x => onI k (fun k => onI v (fun v => if k = 1 then some (.pen x.1 x.2.1 v x.2.2.2) else if k = 2 then some (.pen x.1 x.2.1 x.2.2.1 v) else none) none) none) none

noncomputable def unpackTo : List Nat → List Sc → List Slot → Option (List Slot)
  | [], [], ρ => some ρ
  | i :: is, c :: cs, ρ => unpackTo is cs (ρ.set i (.val (.sc c)))
  | _, _, _ => none

noncomputable def forGo (body : List Slot → Option (List Slot × Out)) (i : Nat) : List Sc → List Slot → Option (List Slot × Out)
  | [], ρ => some (ρ, .next)
  | x :: r, ρ => (body (ρ.set i (.val (.sc x)))).bind fun q => match q.2 with
    | .next | .cont => forGo body i r q.1
    | .brk => some (q.1, .next)
    | .ret p => some (q.1, .ret p)
noncomputable def whileGo (test : List Slot → Option Bool) (body : List Slot → Option (List Slot × Out)) : Nat → List Slot → Option (List Slot × Out)
  | 0, _ => none
  | n + 1, ρ => (test ρ).bind fun b => if b then (body ρ).bind fun q => match q.2 with
      | .next | .cont => whileGo test body n q.1
      | .brk => some (q.1, .next)
      | .ret p => some (q.1, .ret p)
    else some (ρ, .next)

noncomputable def ownAt (ρ : List Slot) (i : Nat) : Option PV := ownS ρ[i]?

mutual
noncomputable def exec (F : Fns) (G : Gls) (n : Nat) (ρ : List Slot) : S → Option (List Slot × Out)
  | .assign i e => (ev F G false ρ e).map fun p => (ρ.set i (.val p), .next)
  | .new i es => (evs F G false ρ es).bind fun ps => (scs ps).bind fun cs => if cs.length ≤ lim then some (ρ.set i (.own (.lst cs)), .next) else none
  | .newD i => some (ρ.set i (.own (.dctS [])), .next)
  | .unpack is e => (ev F G true ρ e).bind fun p => one p.u? (fun l => (unpackTo is l ρ).map fun ρ' => (ρ', .next)) none
  | .append i e => (ownAt ρ i).bind fun p => (ev F G false ρ e).bind fun q => (grow p q).map fun p' => (ρ.set i (.own p'), .next)
  | .extend i e => (ownAt ρ i).bind fun p => (ev F G false ρ e).bind fun q => (growAll p q).map fun p' => (ρ.set i (.own p'), .next)
  | .insert0 i e => (ownAt ρ i).bind fun p => (ev F G false ρ e).bind fun q => (growAhead p q).map fun p' => (ρ.set i (.own p'), .next)
  | .setd i k e => (ev F G false ρ e).bind fun q => (ownAt ρ i).bind fun p => (ev F G false ρ k).bind fun k => (store p k q).map fun p' => (ρ.set i (.own p'), .next)
  | .iff c a b => (tst F G ρ c).bind fun t => if t then execs F G n ρ a else execs F G n ρ b
  | .whil c b => whileGo (fun ρ => tst F G ρ c) (fun ρ => execs F G n ρ b) n ρ
  | .for_ i e b => (ev F G false ρ e).bind fun p => (items p).bind fun xs => forGo (fun ρ => execs F G n ρ b) i xs ρ
  | .ret e => (ev F G true ρ e).map fun p => (ρ, .ret p)
  | .drop e => (ev F G false ρ e).bind asSc |>.map fun _ => (ρ, .next)
  | .cont => some (ρ, .cont)
  | .brk => some (ρ, .brk)
  | .try_ b => execs F G n ρ b
  | .raise => none
noncomputable def execs (F : Fns) (G : Gls) (n : Nat) (ρ : List Slot) : Ss → Option (List Slot × Out)
  | .nil => some (ρ, .next)
  | .cons s r => (exec F G n ρ s).bind fun q => match q.2 with
    | .next => execs F G n q.1 r
    | o => some (q.1, o)
end
noncomputable def runFn (F : Fns) (G : Gls) (n : Nat) (locs : Nat) (body : Ss) (args : List PV) : Option PV :=
  (execs F G n (args.map .val ++ List.replicate locs .un) body).bind fun q => match q.2 with
    | .ret p => some p
    | .next => some (.sc .none)
    | _ => none
/-! ## backwards -/
inductive Ex2 {α : Type} (P Q : α → Prop) : Prop where
  | mk (a : α) (h : P a) (k : Q a) : Ex2 P Q
theorem ns {α : Type} {p : Prop} {x : α} (h : none = some x) : p := nomatch h
theorem ft {p : Prop} (h : false = true) : p := nomatch h
theorem one_some {α β : Type} {x : Option α} {f : α → Option β} {d : Option β} {r : β} (h : one x f d = some r) : Ex2 (fun a => x = some a) (fun a => f a = some r) ∨ d = some r := by
  induction x with
  | some a => exact .inl ⟨a, rfl, h⟩
  | none => exact .inr h
theorem one_last {α β : Type} {x : Option α} {f : α → Option β} {r : β} (h : one x f none = some r) : Ex2 (fun a => x = some a) (fun a => f a = some r) := by
  induction x with
  | some a => exact ⟨a, rfl, h⟩
  | none => exact ns h
theorem iff_some {β : Type} {c : Bool} {x : Option β} {r : β} (h : iff' c x = some r) : c = true ∧ x = some r := by
  induction c with
  | true => exact ⟨rfl, h⟩
  | false => exact ns h
theorem if_some {β : Type} {c : Prop} [Decidable c] {x : Option β} {r : β} (h : (if c then x else none) = some r) : c ∧ x = some r := by
  by_cases hc : c
  · rw [if_pos hc] at h; exact ⟨hc, h⟩
  · rw [if_neg hc] at h; exact ns h
theorem bind_s {α β : Type} {x : Option α} {f : α → Option β} {r : β} (h : x.bind f = some r) : Ex2 (fun a => x = some a) (fun a => f a = some r) := by
  induction x with
  | some a => exact ⟨a, rfl, h⟩
  | none => exact ns h
theorem map_s {α β : Type} {x : Option α} {f : α → β} {r : β} (h : x.map f = some r) : Ex2 (fun a => x = some a) (fun a => f a = r) := by
  induction x with
  | some a => exact ⟨a, rfl, Option.some.inj h⟩
  | none => exact ns h
theorem sing_eq {α : Type} {l : List α} {a : α} (h : sing l = some a) : l = [a] := by
  match l, h with
  | [b], h => cases h; rfl
theorem arg1_some {β : Type} {f : PV → Option β} {ps : List PV} {r : β} (h : arg1 f ps = some r) : Ex2 (fun p => ps = [p]) (fun p => f p = some r) := by
  rcases ps with _ | ⟨p, q⟩
  ·
    exact ns h
  ·
    rcases q with _ | ⟨_, _⟩
    ·
      exact ⟨p, rfl, h⟩
    ·
      exact ns h
theorem arg2_some {β : Type} {f : PV → PV → Option β} {ps : List PV} {r : β} (h : arg2 f ps = some r) : ∃ p q, ps = [p, q] ∧ f p q = some r := by
  rcases ps with _ | ⟨p, q⟩
  ·
    exact ns h
  ·
    obtain ⟨x, rfl, h⟩ := arg1_some h
    exact ⟨p, x, rfl, h⟩
theorem c_eq {p : PV} {c : Sc} (h : p.c? = some c) : p = .sc c := by
  induction p with
  | sc d => cases h; rfl
  | _ => exact ns h
theorem i_eq {c : Sc} {i : Int} (h : c.i? = some i) : c = .int i := by
  induction c with
  | int d => cases h; rfl
  | _ => exact ns h
theorem s_eq {c : Sc} {l : List Nat} (h : c.s? = some l) : c = .str l := by
  induction c with
  | str d => cases h; rfl
  | _ => exact ns h
theorem b_eq {c : Sc} {l : List Nat} (h : c.b? = some l) : c = .bytes l := by
  induction c with
  | bytes d => cases h; rfl
  | _ => exact ns h
theorem t_eq {c : Sc} {b : Bool} (h : c.t? = some b) : c = .bool b := by
  induction c with
  | bool d => cases h; rfl
  | _ => exact ns h
theorem none_eq {p : PV} (h : isNone p = true) : p = .sc .none := by
  induction p with
  | sc c => cases c with
    | none => rfl
    | _ => exact ft h
  | _ => exact ft h
theorem l_eq {p : PV} {l : List Sc} (h : p.l? = some l) : p = .lst l := by
  induction p with
  | lst d => cases h; rfl
  | _ => exact ns h
theorem m_eq {p : PV} {l : List (List Sc)} (h : p.m? = some l) : p = .lstT l := by
  induction p with
  | lstT d => cases h; rfl
  | _ => exact ns h
theorem u_eq {p : PV} {l : List Sc} (h : p.u? = some l) : p = .tup l := by
  induction p with
  | tup d => cases h; rfl
  | _ => exact ns h
theorem r_eq {p : PV} {x : Int × Int × Int} (h : p.r? = some x) : p = .rng x.1 x.2.1 x.2.2 := by
  induction p with
  | rng a b c => cases h; rfl
  | _ => exact ns h
theorem ds_eq {p : PV} {d : List (List Nat × Sc)} (h : p.ds? = some d) : p = .dctS d := by
  induction p with
  | dctS d => cases h; rfl
  | _ => exact ns h
theorem di_eq {p : PV} {d : List (Int × Sc)} (h : p.di? = some d) : p = .dctI d := by
  induction p with
  | dctI d => cases h; rfl
  | _ => exact ns h
theorem p_eq {p : PV} {x : Nat × List Int × Int × Int} (h : p.p? = some x) : p = .pen x.1 x.2.1 x.2.2.1 x.2.2.2 := by
  induction p with
  | pen a b c d => cases h; rfl
  | _ => exact ns h
theorem onC_some {β : Type} {p : PV} {f : Sc → Option β} {d : Option β} {r : β} (h : onC p f d = some r) : Ex2 (fun c => p = .sc c) (fun c => f c = some r) ∨ d = some r :=
  (one_some h).imp (fun ⟨c, e, x⟩ => ⟨c, c_eq e, x⟩) id
theorem onC_last {β : Type} {p : PV} {f : Sc → Option β} {r : β} (h : onC p f none = some r) : Ex2 (fun c => p = .sc c) (fun c => f c = some r) := (onC_some h).resolve_right fun x => ns x
theorem sub_c {α : Type} {p : PV} {g : Sc → Option α} {a : α} (h : (match p.c? with | some c => g c | none => none) = some a) : Ex2 (fun c => p = .sc c) (fun c => g c = some a) := by
  induction p with
  | sc c => exact ⟨c, rfl, h⟩
  | _ => exact ns h
theorem onI_some {β : Type} {p : PV} {f : Int → Option β} {d : Option β} {r : β} (h : onI p f d = some r) : Ex2 (fun c => p = .sc (.int c)) (fun c => f c = some r) ∨ d = some r :=
  (one_some h).imp (fun ⟨c, e, x⟩ => let ⟨y, e1, e2⟩ := sub_c e; ⟨c, by rw [e1, i_eq e2], x⟩) id
theorem onI_last {β : Type} {p : PV} {f : Int → Option β} {r : β} (h : onI p f none = some r) : Ex2 (fun c => p = .sc (.int c)) (fun c => f c = some r) := (onI_some h).resolve_right fun x => ns x
theorem onS_some {β : Type} {p : PV} {f : List Nat → Option β} {d : Option β} {r : β} (h : onS p f d = some r) : Ex2 (fun c => p = .sc (.str c)) (fun c => f c = some r) ∨ d = some r :=
  (one_some h).imp (fun ⟨c, e, x⟩ => let ⟨y, e1, e2⟩ := sub_c e; ⟨c, by rw [e1, s_eq e2], x⟩) id
theorem onS_last {β : Type} {p : PV} {f : List Nat → Option β} {r : β} (h : onS p f none = some r) : Ex2 (fun c => p = .sc (.str c)) (fun c => f c = some r) := (onS_some h).resolve_right fun x => ns x
theorem onB_some {β : Type} {p : PV} {f : List Nat → Option β} {d : Option β} {r : β} (h : onB p f d = some r) : Ex2 (fun c => p = .sc (.bytes c)) (fun c => f c = some r) ∨ d = some r :=
  (one_some h).imp (fun ⟨c, e, x⟩ => let ⟨y, e1, e2⟩ := sub_c e; ⟨c, by rw [e1, b_eq e2], x⟩) id
theorem onB_last {β : Type} {p : PV} {f : List Nat → Option β} {r : β} (h : onB p f none = some r) : Ex2 (fun c => p = .sc (.bytes c)) (fun c => f c = some r) := (onB_some h).resolve_right fun x => ns x
theorem isAdd_eq {o : BOp} (h : o.isAdd = true) : o = .add := by
  induction o with
  | add => rfl
  | _ => exact ft h
theorem isMul_eq {o : BOp} (h : o.isMul = true) : o = .mul := by
  induction o with
  | mul => rfl
  | _ => exact ft h
theorem isLe_eq {o : COp} (h : o.isLe = true) : o = .le := by
  induction o with
  | le => rfl
  | _ => exact ft h
theorem valS_eq {o : Option Slot} {p : PV} (h : valS o = some p) : o = some (.val p) := by
  induction o with
  | none => cases h
  | some s =>
    induction s with
    | val q => cases h; rfl
    | un => cases h
    | own q => cases h
theorem ownS_eq {o : Option Slot} {p : PV} (h : ownS o = some p) : o = some (.own p) := by
  induction o with
  | none => cases h
  | some s =>
    induction s with
    | own q => cases h; rfl
    | un => cases h
    | val q => cases h
end Mine

end
section
open PySem PySem.W PyProof.Rows PySem.Calls
set_option Elab.async false
set_option autoImplicit false
namespace Mine

noncomputable abbrev Ext (h h' : Heap) : Prop := ∀ b o, h.get? b = some o → h'.get? b = some o
theorem Ext.refl (h : Heap) : Ext h h := fun _ _ e => e
theorem Ext.trans {a b c : Heap} (x : Ext a b) (y : Ext b c) : Ext a c := fun p o e => y p o (x p o e)

section
variable (prog : Program) (w : World)

inductive RepTup (V : List Addr) (h : Heap) (l : List Sc) (v : Value) : Prop where
  | mk (a : Addr) (items : Array Value) (e : v = .ref a) (n : a ∉ V) (t : IsTup h a items) (m : items.toList.map Sc.of = l.map some)
inductive RepL (V : List Addr) (h : Heap) (l : List Sc) (v : Value) : Prop where
  | mk (a : Addr) (items : Array Value) (e : v = .ref a) (n : a ∉ V) (t : h.PlainList a items) (m : items.toList.map Sc.of = l.map some) (k : l.length ≤ lim)
inductive RepLT (V : List Addr) (h : Heap) (l : List (List Sc)) (v : Value) : Prop where
  | mk (a : Addr) (items : Array Value) (e : v = .ref a) (n : a ∉ V) (t : h.PlainList a items) (m : Paired (RepTup V h) l items.toList) (k : l.length ≤ lim)
inductive RepS (V : List Addr) (h : Heap) (d : List (List Nat × Sc)) (v : Value) : Prop where
  | mk (a : Addr) (kvs : List (Str × Value)) (e : v = .ref a) (n : a ∉ V) (y : a ≠ sysModules) (t : h.DictOf (strKind prog w) a kvs) (k : kvs.length ≤ d.length) (m : ∀ x : Str, (valueAt kvs x).map Sc.of = (d.reverse.lookup x.cps.toList).map some)
inductive RepI (V : List Addr) (h : Heap) (d : List (Int × Sc)) (v : Value) : Prop where
  | mk (a : Addr) (f : Int → Option Value) (e : v = .ref a) (n : a ∉ V) (y : a ≠ sysModules) (t : h.MapOf (intKind prog w) a f) (m : ∀ x : Int, (f x).map Sc.of = (d.lookup x).map some)
inductive RepPen (V : List Addr) (h : Heap) (p : Addr) (cs : List Int) (a b : Int) (v : Value) : Prop where
  | mk (c : Addr) (items : Array Value) (t u : Tok) (e : v = .ref p) (n : p ∉ V) (l : h.IsList p #[.ref c, .int a t, .int b u]) (nc : c ∉ V) (ne : c ≠ p) (lc : h.PlainList c items) (m : items.toList.map Sc.of = (cs.map Sc.int).map some) (k : cs.length ≤ lim)

noncomputable def Rep (V : List Addr) (h : Heap) : PV → Value → Prop
  | .sc c, v => Sc.of v = some c
  | .tup l, v => RepTup V h l v
  | .lst l, v => RepL V h l v
  | .lstT l, v => RepLT V h l v
  | .rng a b c, v => ∃ r t u x, v = .ref r ∧ r ∉ V ∧ IsRange h r a b c t u x
  | .dctS d, v => RepS prog w V h d v
  | .dctI d, v => RepI prog w V h d v
  | .pen p cs a b, v => RepPen V h p cs a b v
end

theorem isTup_ext {h h' : Heap} {a : Addr} {items : Array Value} (x : IsTup h a items) (e : Ext h h') : IsTup h' a items := let ⟨o, ho, r⟩ := x; ⟨o, e _ _ ho, r⟩
theorem isList_ext {h h' : Heap} {a : Addr} {items : Array Value} (x : h.IsList a items) (e : Ext h h') : h'.IsList a items := let ⟨o, ho, r⟩ := x; ⟨o, e _ _ ho, r⟩
/-- what moves outside of U only, keeps what avoids U -/
theorem RepTup.move {V V' U : List Addr} {h h' : Heap} {l : List Sc} {v : Value} (x : RepTup V h l v) (hU : ∀ a, a ∉ V → a ∉ U) (hV : ∀ a, a ∉ V → a ∉ V') (e : ∀ b o, b ∉ U → h.get? b = some o → h'.get? b = some o) : RepTup V' h' l v := by
  obtain ⟨a, items, rfl, ha, ⟨o, ho, r⟩, hm⟩ := x
  exact ⟨a, items, rfl, hV a ha, ⟨o, e _ _ (hU a ha) ho, r⟩, hm⟩
theorem Rep.move {prog : Program} {w : World} {V V' U : List Addr} {h h' : Heap} {p : PV} {v : Value} (x : Rep prog w V h p v) (hU : ∀ a, a ∉ V → a ∉ U) (hV : ∀ a, a ∉ V → a ∉ V')
    (e : ∀ b o, b ∉ U → h.get? b = some o → h'.get? b = some o) : Rep prog w V' h' p v := by
  induction p with
  | sc c => exact x
  | tup l => exact RepTup.move x hU hV e
  | lst l =>
    obtain ⟨a, items, rfl, ha, ⟨n, ho⟩, hm, hk⟩ := x
    exact ⟨a, items, rfl, hV a ha, ⟨n, e _ _ (hU a ha) ho⟩, hm, hk⟩
  | lstT l =>
    obtain ⟨a, items, rfl, ha, ⟨n, ho⟩, hm, hl⟩ := x
    exact ⟨a, items, rfl, hV a ha, ⟨n, e _ _ (hU a ha) ho⟩, hm.mono fun _ _ y => y.move hU hV e, hl⟩
  | rng a b c =>
    obtain ⟨r, t, u, y, rfl, ha, hr⟩ := x
    exact ⟨r, t, u, y, rfl, hV r ha, e _ _ (hU r ha) hr⟩
  | dctS d =>
    obtain ⟨a, f, rfl, ha, hs, ⟨o, es, ep, ho, r⟩, hk, hm⟩ := x
    exact ⟨a, f, rfl, hV a ha, hs, ⟨o, es, ep, e _ _ (hU a ha) ho, r⟩, hk, hm⟩
  | dctI d =>
    obtain ⟨a, f, rfl, ha, hs, ⟨o, es, ep, ho, r⟩, hm⟩ := x
    exact ⟨a, f, rfl, hV a ha, hs, ⟨o, es, ep, e _ _ (hU a ha) ho, r⟩, hm⟩
  | pen p cs a b =>
    obtain ⟨c, its, t, u, rfl, hp, ⟨n, ho, r⟩, hc, hne, ⟨n', ho'⟩, hm, hk⟩ := x
    exact ⟨c, its, t, u, rfl, hV p hp, ⟨n, e _ _ (hU p hp) ho, r⟩, hV c hc, hne, ⟨n', e _ _ (hU c hc) ho'⟩, hm, hk⟩
theorem Rep.ext {prog : Program} {w : World} {V : List Addr} {h h' : Heap} {p : PV} {v : Value} (x : Rep prog w V h p v) (e : Ext h h') : Rep prog w V h' p v :=
  x.move (U := []) (fun _ _ => List.not_mem_nil) (fun _ y => y) fun b o _ => e b o
theorem Rep.less {prog : Program} {w : World} {V V' : List Addr} {h : Heap} {p : PV} {v : Value} (x : Rep prog w V h p v) (e : ∀ a, a ∈ V' → a ∈ V) : Rep prog w V' h p v :=
  x.move (U := []) (fun _ _ => List.not_mem_nil) (fun _ y z => y (e _ z)) fun _ _ _ q => q

theorem Keeps.refl (s : Shared) : Keeps s s := ⟨s.heap, s.toks, rfl, fun _ _ e => e⟩
theorem Keeps.trans {a b c : Shared} (x : Keeps a b) (y : Keeps b c) : Keeps a c := by
  obtain ⟨h, t, rfl, e⟩ := x
  obtain ⟨h', t', rfl, e'⟩ := y
  exact ⟨h', t', rfl, fun p o q => e' p o (e p o q)⟩
theorem Keeps.ext {a b : Shared} (x : Keeps a b) : Ext a.heap b.heap := by obtain ⟨h, t, rfl, e⟩ := x; exact e
theorem Keeps.mk' {s : Shared} {h' : Heap} {t : Nat} (e : Ext s.heap h') : Keeps s { s with heap := h', toks := t } := ⟨h', t, rfl, e⟩
theorem Keeps.tk (s : Shared) (t : Nat) : Keeps s { s with toks := t } := ⟨s.heap, t, rfl, fun _ _ e => e⟩

/-- a value that is made, all that was stays -/
noncomputable abbrev Gives (M : Model) (A : Around) (t : Sem Value) (s : Shared) (P : Heap → Value → Prop) : Prop :=
  ∀ E : Value → Shared → Prop, wpAny M A t (fun v s' => Keeps s s' ∧ P s'.heap v) E s

theorem paired_length {α β : Type} {F : α → β → Prop} {l : List α} {r : List β} (x : Paired F l r) : l.length = r.length := x.length

theorem of_map_len {l : List Value} {cs : List Sc} (e : l.map Sc.of = cs.map some) : l.length = cs.length := by
  have := congrArg List.length e; simpa using this
theorem of_map_get {l : List Value} {cs : List Sc} (e : l.map Sc.of = cs.map some) (i : Nat) : (l[i]?).map Sc.of = (cs[i]?).map some := by
  have := congrArg (·[i]?) e; simpa using this
theorem of_map_get' {l : List Value} {cs : List Sc} (e : l.map Sc.of = cs.map some) {i : Nat} {c : Sc} (h : cs[i]? = some c) : ∃ v, l[i]? = some v ∧ Sc.of v = some c := by
  have := of_map_get e i
  rw [h] at this
  cases q : l[i]? with
  | none => rw [q] at this; cases this
  | some v => rw [q] at this; exact ⟨v, rfl, by simpa using this⟩

theorem of_int {v : Value} {i : Int} (h : Sc.of v = some (.int i)) : ∃ t, v = .int i t := by
  unfold Sc.of at h
  repeat' split at h
  all_goals cases h
  exact ⟨_, rfl⟩
theorem of_bool {v : Value} {b : Bool} (h : Sc.of v = some (.bool b)) : v = .bool b := by
  unfold Sc.of at h
  repeat' split at h
  all_goals cases h
  rfl
theorem of_none {v : Value} (h : Sc.of v = some .none) : v = .none := by
  unfold Sc.of at h
  repeat' split at h
  all_goals cases h
  rfl
theorem of_str {v : Value} {l : List Nat} (h : Sc.of v = some (.str l)) : ∃ t, v = .str ⟨l.toArray⟩ t ∧ l.length ≤ lim := by
  unfold Sc.of at h
  repeat' split at h
  all_goals cases h
  rename_i s t hl
  exact ⟨t, by simp, by simpa using hl⟩
theorem of_bytes {v : Value} {l : List Nat} (h : Sc.of v = some (.bytes l)) : ∃ b t, v = .bytes b t ∧ b.toList.map UInt8.toNat = l ∧ l.length ≤ lim := by
  unfold Sc.of at h
  repeat' split at h
  all_goals cases h
  rename_i b t hl
  exact ⟨b, t, rfl, rfl, by simpa using hl⟩
theorem of_str_mk {l : List Nat} (t : Tok) (h : l.length ≤ lim) : Sc.of (.str ⟨l.toArray⟩ t) = some (.str l) := by
  unfold Sc.of; simp [h]
theorem of_str_mk' {s : Str} (t : Tok) (h : s.cps.size ≤ lim) : Sc.of (.str s t) = some (.str s.cps.toList) := by
  unfold Sc.of; simp [h]
theorem of_bytes_mk {b : Array UInt8} (t : Tok) (h : b.size ≤ lim) : Sc.of (.bytes b t) = some (.bytes (b.toList.map UInt8.toNat)) := by
  unfold Sc.of; simp [h]
end Mine

end
section
open PySem PySem.W PyProof.Rows PySem.Calls
set_option Elab.async false
set_option autoImplicit false
namespace Mine
section
variable {prog : Program} {w : World} {A : Around} {s : Shared} {V : List Addr}

theorem lim_val : lim = 65536 := by with_unfolding_all rfl
theorem lim_le : lim ≤ sizeLine := by rw [sizeLine_eq, lim_val]; decide

/-- every address that is to be avoided is alive -/
noncomputable abbrev Live (V : List Addr) (h : Heap) : Prop := ∀ a ∈ V, ∃ o, h.get? a = some o
theorem Live.ext {V : List Addr} {h h' : Heap} (x : Live V h) (e : Ext h h') : Live V h' := fun a ha => let ⟨o, ho⟩ := x a ha; ⟨o, e _ _ ho⟩
theorem Live.fresh {V : List Addr} {h : Heap} (x : Live V h) : h.objs.size ∉ V := fun m => by
  obtain ⟨o, ho⟩ := x _ m
  exact Nat.lt_irrefl _ (Heap.lt_size ho)
theorem Live.fresh' {V : List Addr} {h : Heap} {a : Addr} (x : Live V h) (n : h.get? a = none) : a ∉ V := fun m => by
  obtain ⟨o, ho⟩ := x _ m
  rw [n] at ho; cases ho

theorem ext_push (h : Heap) (o : Obj) : Ext h (h.push o) := fun _ _ e => Heap.get?_push_of_some _ e

theorem mulok {a b : Int} (h : b.natAbs < 2 ^ 63 ∨ a.natAbs < 2 ^ 63) : IntMulOk a b := by
  rcases h with h | h
  · exact .of_right (intBits_le_64 (by omega (splitDisjunctions := true)) (by omega (splitDisjunctions := true)))
  · exact .of_left (intBits_le_64 (by omega (splitDisjunctions := true)) (by omega (splitDisjunctions := true)))

theorem foldl_arr {l : List Value} : ∀ (n : Nat) (acc : List Value), List.foldl (fun x1 x2 => x1 ++ x2) acc.toArray (List.replicate n l.toArray) = (acc ++ (List.replicate n l).flatten).toArray
  | 0, acc => by simp
  | n + 1, acc => by rw [List.replicate_succ, List.foldl_cons, List.append_toArray, foldl_arr n, List.replicate_succ, List.flatten_cons, List.append_assoc]
theorem map_flatten_rep {α β : Type} (f : α → β) (l : List α) : ∀ n : Nat, ((List.replicate n l).flatten).map f = (List.replicate n (l.map f)).flatten
  | 0 => rfl
  | n + 1 => by simp [List.replicate_succ]


theorem paired_snoc_all {α β : Type} {F : α → β → Prop} : ∀ {l₁ l₂ : List α} {r₁ r₂ : List β}, Paired F l₁ r₁ → Paired F l₂ r₂ → Paired F (l₁ ++ l₂) (r₁ ++ r₂)
  | _, _, _, _, .nil, y => y
  | _, _, _, _, .cons h t, y => .cons h (paired_snoc_all t y)

noncomputable def bopOf : BOp → Operator
  | .add => .Add | .sub => .Sub | .mul => .Mult | .fdiv => .FloorDiv | .mod => .Mod | .shl => .LShift | .shr => .RShift | .band => .BitAnd | .pow => .Pow

theorem iop_ok {o : BOp} {a b i : Int} {t u : Tok} {Q : Value → Shared → Prop} {E : Value → Shared → Prop} (hr : iop o a b = some i) (hQ : ∀ t' tk, Q (.int i t') { s with toks := tk }) :
    wpAny (model prog w) A (binaryOp (bopOf o) (.int a t) (.int b u)) Q E s := by
  cases o <;> simp only [iop, bopOf] at hr ⊢
  · cases hr; exact PyProof.Rows.add_int (hQ _ _)
  · cases hr; exact PyProof.Rows.sub_int (hQ _ _)
  · replace hr := if_some hr
    obtain ⟨h, hr⟩ := hr
    cases hr
    exact PyProof.Rows.mul_int (hQ _ _) (mulok h)
  · replace hr := if_some hr
    obtain ⟨h, hr⟩ := hr
    cases hr
    exact PyProof.Rows.floordiv_int h.1 (hQ _ _) (.inl (PyProof.noPylong_small h.2))
  · replace hr := if_some hr
    obtain ⟨h, hr⟩ := hr
    cases hr
    exact PyProof.Rows.mod_int' h (hQ _ _)
  · replace hr := if_some hr
    obtain ⟨h, hr⟩ := hr
    cases hr
    exact PyProof.Rows.lshift_int_small h.1 h.2.1 h.2.2 (hQ _ _)
  · replace hr := if_some hr
    obtain ⟨h, hr⟩ := hr
    cases hr
    exact PyProof.Rows.rshift_int h (hQ _ _)
  · cases hr; exact PyProof.Rows.and_int (hQ _ _)
  · replace hr := if_some hr
    obtain ⟨h, hr⟩ := hr
    cases hr
    exact PyProof.Rows.pow_int_small h.1 h.2.1 h.2.2 (hQ _ _)

theorem bop_ok {o : BOp} {p q r : PV} {u v : Value} {W : List Addr} (hr : bop o p q = some r) (hL : Live V s.heap) (hp : Rep prog w W s.heap p u) (hq : Rep prog w W s.heap q v) (hT : ∀ l, r = .lstT l → ∀ a, a ∉ W → a ∉ V) :
    Gives (model prog w) A (binaryOp (bopOf o) u v) s (fun h x => Rep prog w V h r x) := by
  intro E
  replace hr := onI_some hr
  rcases hr with ⟨a, rfl, h1⟩ | hr
  · obtain ⟨b, rfl, h2⟩ := onI_last h1
    replace hq := of_int hq
    obtain ⟨t, rfl⟩ := of_int hp; obtain ⟨t', rfl⟩ := hq
    replace h2 := map_s h2
    obtain ⟨i, hi, rfl⟩ := h2
    exact iop_ok hi fun _ _ => ⟨Keeps.tk _ _, rfl⟩
  replace hr := onS_some hr
  rcases hr with ⟨a, rfl, h1⟩ | hr
  · obtain ⟨b, rfl, h2⟩ := onS_last h1
    obtain ⟨hq0, h3⟩ := iff_some h2
    replace hq0 := isAdd_eq hq0
    subst hq0
    replace hq := of_str hq
    obtain ⟨t, rfl, h1⟩ := of_str hp; obtain ⟨t', rfl, h2⟩ := hq
    replace h3 := if_some h3
    obtain ⟨hl, h4⟩ := h3
    cases h4
    refine PyProof.Rows.add_str (fun t' tk => ⟨Keeps.tk _ _, ?_⟩) (by have := lim_le; simp only [Str.length, List.size_toArray]; rw [List.length_append] at hl; omega)
    have e : (⟨a.toArray⟩ : Str) ++ ⟨b.toArray⟩ = ⟨(a ++ b).toArray⟩ := by
      show Str.append _ _ = _
      simp [Str.append]
    rw [e]; exact of_str_mk _ hl
  replace hr := onB_some hr
  rcases hr with ⟨a, rfl, h1⟩ | hr
  · obtain ⟨b, rfl, h2⟩ := onB_last h1
    obtain ⟨hq0, h3⟩ := iff_some h2
    replace hq0 := isAdd_eq hq0
    subst hq0
    replace hq := of_bytes hq
    obtain ⟨x, t, rfl, rfl, h1⟩ := of_bytes hp; obtain ⟨y, t', rfl, rfl, h2⟩ := hq
    replace h3 := if_some h3
    obtain ⟨hl, h4⟩ := h3
    cases h4
    simp only [List.length_append, List.length_map, Array.length_toList] at hl
    refine KBy.add_bytes (by rw [lim_val] at hl; omega) fun t' k => ⟨Keeps.tk _ _, ?_⟩
    have := of_bytes_mk (b := x ++ y) t' (by simpa using hl)
    simpa [Rep] using this
  replace hr := one_some hr
  rcases hr with ⟨l, hx, h1⟩ | hr
  · replace hx := l_eq hx
    subst hx
    obtain ⟨a, its, rfl, ha, pa, ma, la⟩ := hp
    replace h1 := one_some h1
    rcases h1 with ⟨y, hy, h2⟩ | h1
    · replace hy := l_eq hy
      subst hy
      replace h2 := iff_some h2
      obtain ⟨hq0, h3⟩ := h2
      replace hq0 := isAdd_eq hq0
      subst hq0
      obtain ⟨b, jts, rfl, hb, pb, mb, lb⟩ := hq
      replace h3 := if_some h3
      obtain ⟨hl, h4⟩ := h3
      cases h4
      replace pb := id pb
      obtain ⟨n, ho⟩ := id pa; obtain ⟨n', ho'⟩ := pb
      have l1 := of_map_len ma; have l2 := of_map_len mb
      have hs : its.size + jts.size ≤ sizeLine := by have := lim_le; simp only [List.length_append, Array.length_toList] at *; omega
      refine concat_meets ⟨_, ho, rfl⟩ ⟨_, ho', rfl⟩ noFill_list_add seq_list_add PySem.F.slot_list_add PySem.F.entry_list_add (PySem.F.args_list_add_2 _ _) (list_addW a b its jts n n' none none #[] #[] hs) ⟨ho, ho', ?_⟩
      refine ⟨Keeps.mk' (ext_push _ _), _, _, rfl, hL.fresh, ⟨_, Heap.get?_push_size _ rfl⟩, ?_, hl⟩
      simp [ma, mb]
    · replace h1 := onI_last h1
      obtain ⟨n, rfl, h2⟩ := h1
      replace h2 := iff_some h2
      obtain ⟨hq0, h3⟩ := h2
      replace hq0 := isMul_eq hq0
      subst hq0
      replace hq := of_int hq
      obtain ⟨t', rfl⟩ := hq
      replace h3 := if_some h3
      obtain ⟨hl, h4⟩ := h3
      cases h4
      replace pa := id pa
      obtain ⟨k, ho⟩ := pa
      have l1 := of_map_len ma
      have hl1 := hl.1; have hl2 := hl.2
      rw [lim_val] at hl1 hl2
      simp only [Array.length_toList] at l1
      refine wpAny_binaryOp_repeat_ref (T := "list") (U := "int") (by decide) ⟨_, ho, rfl⟩ (fun s' => typeIs_int s' n t') noFill_list_mul F.fills_int_mul F.slot_int_rmul repeat_list F.slot_int_index.lookup
        (call_meets F.slot_int_rmul (typeIs_int s n t') F.entry_int_rmul (F.args_int_rmul_2 _ _) (int___rmul___int_list n t' a its k)
        ⟨ho, rfl, ⟨_, ho, rfl⟩, call_meets F.slot_list_mul ⟨_, ho, rfl⟩ F.entry_list_mul (F.args_list_mul_2 _ _)
          (AutoListH.list___mul___list_int_3 a its k n t' (by simp [Builtin.List.listFitsIndex]; omega) (by rw [l1]; omega) (by rw [l1]; simp [Builtin.List.listTooLong, sizeLine]; omega))
          ⟨ho, ?_⟩⟩)
      refine ⟨Keeps.mk' (ext_push _ _), _, _, rfl, hL.fresh, ⟨_, Heap.get?_push_size _ rfl⟩, ?_, ?_⟩
      · have e : (if its.isEmpty = true then 0 else n.toNat) = 0 ∧ its.toList = [] ∨ (if its.isEmpty = true then 0 else n.toNat) = n.toNat := by
          by_cases h : its.isEmpty = true
          · left; rw [if_pos h]; exact ⟨rfl, by simpa using h⟩
          · right; rw [if_neg h]
        have e2 : its = its.toList.toArray := by simp
        rcases e with ⟨e, en⟩ | e
        · rw [e]
          have hl : l = [] := by rw [en] at ma; simpa using ma.symm
          subst hl
          simp
        · rw [e, e2]
          have := foldl_arr (l := its.toList) n.toNat []
          simp only [List.nil_append] at this
          rw [this, List.toList_toArray, map_flatten_rep, ma, map_flatten_rep]
      · simp only [List.length_flatten, List.map_replicate, List.sum_replicate_nat]; rw [Nat.mul_comm]; exact hl.1
  · replace hr := one_last hr
    obtain ⟨x, hx, h1⟩ := hr
    replace hx := m_eq hx
    subst hx
    replace h1 := one_last h1
    obtain ⟨y, hy, h2⟩ := h1
    replace hy := m_eq hy
    subst hy
    replace h2 := iff_some h2
    obtain ⟨hq0, h3⟩ := h2
    replace hq0 := isAdd_eq hq0
    subst hq0
    obtain ⟨a, its, rfl, ha, pa, ma, la⟩ := hp; obtain ⟨b, jts, rfl, hb, pb, mb, lb⟩ := hq
    replace h3 := if_some h3
    obtain ⟨hl, h4⟩ := h3
    cases h4
    replace pb := id pb
    obtain ⟨n, ho⟩ := id pa; obtain ⟨n', ho'⟩ := pb
    have l1 := ma.length; have l2 := mb.length
    have hs : its.size + jts.size ≤ sizeLine := by have := lim_le; simp only [List.length_append, Array.length_toList] at *; omega
    refine concat_meets ⟨_, ho, rfl⟩ ⟨_, ho', rfl⟩ noFill_list_add seq_list_add PySem.F.slot_list_add PySem.F.entry_list_add (PySem.F.args_list_add_2 _ _) (list_addW a b its jts n n' none none #[] #[] hs) ⟨ho, ho', ?_⟩
    refine ⟨Keeps.mk' (ext_push _ _), _, _, rfl, hL.fresh, ⟨_, Heap.get?_push_size _ rfl⟩, ?_, hl⟩
    have mv : ∀ l v, RepTup W s.heap l v → RepTup V (s.heap.push { cls := .type "list", data := .seq (its ++ jts) }) l v := fun l v x => x.move (U := []) (fun _ _ => List.not_mem_nil) (hT _ rfl) fun b o _ => ext_push _ _ b o
    rw [Array.toList_append]
    exact paired_snoc_all (ma.mono mv) (mb.mono mv)
end
end Mine

end
section
open PySem PySem.W PyProof.Rows PySem.Calls
open PySem.SeqAt PySem.SeqRoads2
set_option Elab.async false
set_option autoImplicit false
namespace Mine
noncomputable def copOf : COp → CmpOp
  | .eq => .Eq | .ne => .NotEq | .lt => .Lt | .le => .LtE | .gt => .Gt | .ge => .GtE | .isin => .In | .notin => .NotIn | .is => .Is | .isnot => .IsNot

section
variable {prog : Program} {w : World} {A : Around} {s : Shared}

/-- the answer is a bool and only marks are spent -/
noncomputable abbrev Says (M : Model) (A : Around) (t : Sem Value) (s : Shared) (b : Bool) : Prop :=
  ∀ E : Value → Shared → Prop, wpAny M A t (fun v s' => v = .bool b ∧ Keeps s s') E s

theorem map_toNat_inj {a b : List UInt8} : (a.map UInt8.toNat == b.map UInt8.toNat) = (a == b) := by
  rw [Bool.eq_iff_iff]
  simp only [beq_iff_eq]
  constructor
  · intro h
    have : ∀ (a b : List UInt8), a.map UInt8.toNat = b.map UInt8.toNat → a = b := by
      intro a
      induction a with
      | nil => intro b h; cases b with
        | nil => rfl
        | cons => cases h
      | cons x r ih => intro b h; cases b with
        | nil => cases h
        | cons y q =>
          simp only [List.map_cons, List.cons.injEq] at h
          rw [UInt8.toNat_inj.mp h.1, ih _ h.2]
    exact this _ _ h
  · intro h; rw [h]
theorem str_beq (a b : List Nat) : ((⟨a.toArray⟩ : Str) == ⟨b.toArray⟩) = (a == b) := by
  rw [← PyProof.Rows.toList_beq]

theorem scEq_ok {a b : Sc} {c : Bool} {u v : Value} (h : scEq a b = some c) (hu : Sc.of u = some a) (hv : Sc.of v = some b) :
    Says (model prog w) A (compareOp .Eq u v) s c ∧ Says (model prog w) A (compareOp .NotEq u v) s (!c) := by
  replace h := one_some h
  rcases h with ⟨x, hx, h1⟩ | h
  · obtain ⟨y, hy, h2⟩ := one_last h1
    cases i_eq hx; cases i_eq hy; cases h2
    replace hv := of_int hv
    obtain ⟨t, rfl⟩ := of_int hu; obtain ⟨t', rfl⟩ := hv
    exact ⟨fun E => PyProof.Rows.eq_int ⟨rfl, Keeps.refl _⟩, fun E => PyProof.Rows.ne_int ⟨rfl, Keeps.refl _⟩⟩
  replace h := one_some h
  rcases h with ⟨x, hx, h1⟩ | h
  · replace h1 := one_last h1
    obtain ⟨y, hy, h2⟩ := h1
    cases s_eq hx; cases s_eq hy; cases h2
    replace hv := of_str hv
    obtain ⟨t, rfl, _⟩ := of_str hu; obtain ⟨t', rfl, _⟩ := hv
    exact ⟨fun E => PyProof.Rows.eq_str ⟨by rw [str_beq], Keeps.refl _⟩, fun E => PyProof.Rows.ne_str ⟨by rw [bne, str_beq], Keeps.refl _⟩⟩
  · replace h := one_last h
    obtain ⟨x, hx, h1⟩ := h
    replace h1 := one_last h1
    obtain ⟨y, hy, h2⟩ := h1
    cases b_eq hx; cases b_eq hy; cases h2
    replace hv := of_bytes hv
    obtain ⟨x, t, rfl, rfl, _⟩ := of_bytes hu; obtain ⟨y, t', rfl, rfl, _⟩ := hv
    exact ⟨fun E => PySem.W.eq_bytes ⟨by rw [map_toNat_inj], Keeps.refl _⟩, fun E => PySem.W.ne_bytes ⟨by rw [bne, map_toNat_inj], Keeps.refl _⟩⟩

theorem eqAt_bytes (A : Around) (s : Shared) (a b : Array UInt8) (t u : Tok) : EqAt A s (.bytes a t) (.bytes b u) (a.toList == b.toList) := by
  intro prog w E Q h
  unfold eqBool
  refine wpAny_holding ?_
  refine wpAny_ite_split (fun hab => ?_) (fun hab => ?_)
  · have := eq_of_beq hab
    cases this
    exact wpAny_bind (wpAny_rule (wpAny_pure (by simpa using h)))
  · exact wpAny_bind (richCompare_gives (typeIs_bytes s a t) (typeIs_bytes s b u) FB.slot_bytes_eq FB.entry_bytes_eq (FB.args_bytes_eq_2 _ _) (gives_bytes_eq a b t u) (by simp [Made.takes]) (wpAny_truthy_bool h))
theorem scEq_at {a b : Sc} {c : Bool} {u v : Value} (h : scEq a b = some c) (hu : Sc.of u = some a) (hv : Sc.of v = some b) : EqAt A s u v c := by
  replace h := one_some h
  rcases h with ⟨x, hx, h1⟩ | h
  · obtain ⟨y, hy, h2⟩ := one_last h1
    cases i_eq hx; cases i_eq hy; cases h2
    replace hv := of_int hv
    obtain ⟨t, rfl⟩ := of_int hu; obtain ⟨t', rfl⟩ := hv
    exact (MeetsSeq.EqGives.int _ _ _ _).at _ _
  replace h := one_some h
  rcases h with ⟨x, hx, h1⟩ | h
  · replace h1 := one_last h1
    obtain ⟨y, hy, h2⟩ := h1
    cases s_eq hx; cases s_eq hy; cases h2
    replace hv := of_str hv
    obtain ⟨t, rfl, _⟩ := of_str hu; obtain ⟨t', rfl, _⟩ := hv
    exact (SeqRoads2.EqGives.str _ _ _ _).at _ _
  · replace h := one_last h
    obtain ⟨x, hx, h1⟩ := h
    replace h1 := one_last h1
    obtain ⟨y, hy, h2⟩ := h1
    cases b_eq hx; cases b_eq hy; cases h2
    replace hv := of_bytes hv
    obtain ⟨x, t, rfl, rfl, _⟩ := of_bytes hu; obtain ⟨y, t', rfl, rfl, _⟩ := hv
    rw [map_toNat_inj]
    exact eqAt_bytes _ _ _ _ _ _

noncomputable def eqTo (a : Sc) (v : Value) : Bool := match Sc.of v with
  | some b => (scEq b a).getD false
  | none => false
theorem isinL_any {a : Sc} {u : Value} (hu : Sc.of u = some a) : ∀ {l : List Sc} {vs : List Value} {c : Bool}, isinL a l = some c → vs.map Sc.of = l.map some →
    (∀ y, y ∈ vs → EqAt A s y u (eqTo a y)) ∧ vs.any (eqTo a) = c := by
  intro l
  induction l with
  | nil =>
    intro vs c h hm
    cases h
    have : vs = [] := by simpa using hm
    subst this
    exact ⟨fun _ hy => (nomatch hy), rfl⟩
  | cons b r ih =>
    intro vs c h hm
    rcases vs with _ | ⟨v, vs⟩
    ·
      cases hm
    ·
      simp only [List.map_cons, List.cons.injEq] at hm
      simp only [isinL, Option.bind_eq_some_iff, Option.map_eq_some_iff] at h
      obtain ⟨q, hq, d, hd, rfl⟩ := h
      obtain ⟨i1, i2⟩ := ih hd hm.2
      have e : eqTo a v = q := by unfold eqTo; rw [hm.1]; simp [hq]
      refine ⟨fun y hy => ?_, by rw [List.any_cons, i2, e]⟩
      replace hy := List.mem_cons.mp hy
      rcases hy with rfl | hy
      · rw [e]; exact scEq_at hq hm.1 hu
      · exact i1 y hy

theorem isinL_tup {a : Sc} {u : Value} (hu : Sc.of u = some a) {l : List Sc} {c : Bool} (h : isinL a l = some c) {W : List Addr} {v : Value} (hv : RepTup W s.heap l v) :
    Says (model prog w) A (compareOp .In u v) s c ∧ Says (model prog w) A (compareOp .NotIn u v) s (!c) := by
  obtain ⟨x, its, rfl, _, ht, hm⟩ := hv
  obtain ⟨he, hc⟩ := isinL_any (A := A.in1) (s := s) hu h hm
  exact ⟨fun E => in_tupleAt _ ht (fun y hy => he y (Array.mem_toList_iff.mpr hy)) ⟨by rw [← hc, Array.any_toList], Keeps.refl _⟩,
    fun E => notIn_tupleAt _ ht (fun y hy => he y (Array.mem_toList_iff.mpr hy)) ⟨by rw [← hc, Array.any_toList], Keeps.refl _⟩⟩

theorem gives_bytes_contains (b : Array UInt8) (t : Tok) (i : Int) (u : Tok) (h0 : 0 ≤ i) (h1 : i < 256) : PySem.Gives (Builtin.«bytes.__contains__» ⟨[.bytes b t, .int i u], []⟩) (.val (Value.bool (b.contains i.toNat.toUInt8))) := by
  refine .of_wp fun M A E s Q hq => ?_
  have hk : wpAny M A (Builtin.Bytes.containsIn "bytes.__contains__" (Value.bytes b t) (Value.int i u)) (fun r s' => r = b.contains i.toNat.toUInt8 ∧ s' = s) E s := by
    unfold Builtin.Bytes.containsIn
    refine wpAny_bind (wpAny_attempt ?_)
    refine wpAny_of_eq (a := i) rfl ?_
    refine wpAny_bind (wpAny_of_eq KBy.buffer_eq ?_)
    dsimp only
    rw [if_neg (by simp only [Bool.or_eq_true, decide_eq_true_eq]; omega)]
    exact wpAny_pure ⟨rfl, rfl⟩
  show wpAny M A (Builtin.Bytes.containsIn "bytes.__contains__" (Value.bytes b t) (Value.int i u) >>= fun r => ret (Value.bool r)) _ E s
  refine wpAny_bind (wpAny_mono hk (fun r s' h => ?_) fun _ _ e => e)
  obtain ⟨rfl, rfl⟩ := h
  exact wpAny_pure ⟨_, rfl, hq⟩
theorem contains_nat (b : Array UInt8) (n : Nat) (h : n < 256) : (b.toList.map UInt8.toNat).contains n = b.contains n.toUInt8 := by
  rw [Bool.eq_iff_iff]
  simp only [List.contains_iff_mem, Array.contains_iff_mem, List.mem_map, Array.mem_toList_iff]
  constructor
  · rintro ⟨x, hx, rfl⟩; simpa using hx
  · intro hx; exact ⟨_, hx, by simp; omega (splitDisjunctions := true)⟩
theorem in_bytes {b : Array UInt8} {t : Tok} {i : Int} {u : Tok} (h0 : 0 ≤ i) (h1 : i < 256) :
    Says (model prog w) A (compareOp .In (.int i u) (.bytes b t)) s ((b.toList.map UInt8.toNat).contains i.toNat) ∧ Says (model prog w) A (compareOp .NotIn (.int i u) (.bytes b t)) s (!(b.toList.map UInt8.toNat).contains i.toNat) := by
  rw [contains_nat b i.toNat (by omega)]
  constructor
  · intro E
    show wpAny _ A (do return Value.bool (← contains (.bytes b t) (.int i u))) _ E s
    refine wpAny_bind (wpAny_contains_slot (typeIs_bytes s b t) FB.slot_bytes_contains (call_gives FB.slot_bytes_contains (typeIs_bytes s b t) FB.entry_bytes_contains (FB.args_bytes_contains_2 _ _) (gives_bytes_contains b t i u h0 h1) ?_))
    exact wpAny_truthy_bool (wpAny_pure ⟨rfl, Keeps.refl _⟩)
  · intro E
    show wpAny _ A (do return Value.bool (!(← contains (.bytes b t) (.int i u)))) _ E s
    refine wpAny_bind (wpAny_contains_slot (typeIs_bytes s b t) FB.slot_bytes_contains (call_gives FB.slot_bytes_contains (typeIs_bytes s b t) FB.entry_bytes_contains (FB.args_bytes_contains_2 _ _) (gives_bytes_contains b t i u h0 h1) ?_))
    exact wpAny_truthy_bool (wpAny_pure ⟨rfl, Keeps.refl _⟩)

theorem len_zero {α : Type} (l : List α) : (l.length == 0) = l.isEmpty := by cases l <;> rfl
theorem eq_lists {h : Heap} {a b : Addr} {xs ys : Array Value} (hs : s.heap = h) (ha : h.IsList a xs) (hb : h.IsList b ys) (hy : ys.size = 0) (hu : A.units < cLine) :
    Says (model prog w) A (compareOp .Eq (.ref a) (.ref b)) s (xs.size == 0) := by
  subst hs
  intro E
  by_cases hx : xs.size = 0
  · refine eq_listAt ha hb (by omega) hu (e := fun _ => true) (fun j h1 _ => by omega) ⟨?_, Keeps.refl _⟩
    simp [hx]
  · refine eq_list_lengthsAt ha hb (by simp; omega) hu ⟨?_, Keeps.refl _⟩
    have : (xs.size == 0) = false := by simpa using hx
    rw [this]

theorem ne_lists {h : Heap} {a b : Addr} {xs ys : Array Value} (hs : s.heap = h) (ha : h.IsList a xs) (hb : h.IsList b ys) (hy : ys.size = 0) (hu : A.units < cLine) :
    Says (model prog w) A (compareOp .NotEq (.ref a) (.ref b)) s (!(xs.size == 0)) := by
  subst hs
  intro E
  show wpAny _ _ (richCompare .NotEq _ _) _ E s
  by_cases hx : xs.size = 0
  · refine RcNeAt.lists ha hb (by omega) hu (e := fun _ => true) (fun j h1 _ => by omega) prog w E _ ⟨?_, Keeps.refl _⟩
    simp [hx]
  · refine RcNeAt.lists_lengths ha hb (by simp; omega) hu prog w E _ ⟨?_, Keeps.refl _⟩
    have : (xs.size == 0) = false := by simpa using hx
    rw [this]; rfl
theorem ints_of {its : Array Value} {a b : Int} (h : its.toList.map Sc.of = [Sc.int a, Sc.int b].map some) : ∃ t u, its = #[.int a t, .int b u] := by
  obtain ⟨l⟩ := its
  match l, h with
  | [], h => exact absurd (congrArg List.length h) (by simp)
  | [_], h => exact absurd (congrArg List.length h) (by simp)
  | _ :: _ :: _ :: _, h => exact absurd (congrArg List.length h) (by simp)
  | [x, y], h =>
    simp only [List.map_cons, List.map_nil, List.cons.injEq, and_true] at h
    obtain ⟨t, rfl⟩ := of_int h.1
    obtain ⟨u, rfl⟩ := of_int h.2
    exact ⟨t, u, rfl⟩
theorem eq_pair {x y : Addr} {a b c d : Int} {xs ys : Array Value} (hx : IsTup s.heap x xs) (hy : IsTup s.heap y ys) (h1 : xs.toList.map Sc.of = [Sc.int a, Sc.int b].map some)
    (h2 : ys.toList.map Sc.of = [Sc.int c, Sc.int d].map some) (hu : A.units < cLine) :
    Says (model prog w) A (compareOp .Eq (.ref x) (.ref y)) s (a == c && b == d) ∧ Says (model prog w) A (compareOp .NotEq (.ref x) (.ref y)) s (!(a == c && b == d)) := by
  obtain ⟨t, u, rfl⟩ := ints_of h1
  obtain ⟨t', u', rfl⟩ := ints_of h2
  have he : ∀ j (h1 : j < (#[Value.int a t, .int b u]).size) (h2 : j < (#[Value.int c t', .int d u']).size), EqAt A.in1 s (#[Value.int a t, .int b u])[j] (#[Value.int c t', .int d u'])[j] (if j = 0 then a == c else b == d) := by
    intro j h1 h2
    match j, h1, h2 with
    | 0, _, _ => exact (MeetsSeq.EqGives.int _ _ _ _).at _ _
    | 1, _, _ => exact (MeetsSeq.EqGives.int _ _ _ _).at _ _
  have e : ((List.range (min (#[Value.int a t, .int b u]).size (#[Value.int c t', .int d u']).size)).all fun j => if j = 0 then a == c else b == d) = (a == c && b == d) := by
    simp [List.range_succ]
  have e2 : ((#[Value.int a t, .int b u]).size == (#[Value.int c t', .int d u']).size) = true := rfl
  constructor
  · intro E
    exact eq_tupleAt hx hy hu he ⟨by rw [e, e2, Bool.and_true], Keeps.refl _⟩
  · intro E
    show wpAny _ A (richCompare .NotEq _ _) _ E s
    exact RcNeAt.tuples hx hy hu he prog w E _ ⟨by rw [e, e2, Bool.and_true], Keeps.refl _⟩

theorem pair_eq {l : List Sc} {x : Int × Int} (h : pair? l = some x) : l = [.int x.1, .int x.2] := by
  rcases l with _ | ⟨a, r⟩
  ·
    exact ns h
  ·
    replace h := one_last h
    obtain ⟨i, hi, h1⟩ := h
    replace h1 := one_last h1
    obtain ⟨y, hy, h2⟩ := h1
    replace h2 := one_last h2
    obtain ⟨j, hj, h3⟩ := h2
    cases h3
    rw [i_eq hi, sing_eq hy, i_eq hj]
theorem pvEqT_ok {p q : PV} {c : Bool} {u v : Value} {W W' : List Addr} (h : pvEqT p q = some c) (hu : Rep prog w W s.heap p u) (hv : Rep prog w W' s.heap q v) (hA : A.units < cLine) :
    Says (model prog w) A (compareOp .Eq u v) s c ∧ Says (model prog w) A (compareOp .NotEq u v) s (!c) := by
  rcases onC_some h with ⟨a, rfl, h1⟩ | h0
  · obtain ⟨b, rfl, h2⟩ := onC_last h1
    exact scEq_ok h2 hu hv
  replace h0 := one_some h0
  rcases h0 with ⟨a, ha, h1⟩ | h0
  · replace h1 := one_last h1
    obtain ⟨b, hb, h2⟩ := h1
    replace h2 := one_last h2
    obtain ⟨x, hx, h3⟩ := h2
    replace h3 := one_last h3
    obtain ⟨y, hy, h4⟩ := h3
    cases u_eq ha; cases u_eq hb; cases h4
    cases pair_eq hx; cases pair_eq hy
    obtain ⟨a, its, rfl, _, ha, ma⟩ := hu
    obtain ⟨b, jts, rfl, _, hb, mb⟩ := hv
    exact eq_pair ha hb ma mb hA
  · replace h0 := one_last h0
    obtain ⟨a, ha, h1⟩ := h0
    obtain ⟨b, hb, h2⟩ := one_last h1
    obtain ⟨he, h3⟩ := iff_some h2
    cases l_eq ha; cases l_eq hb; cases h3; cases List.isEmpty_iff.mp he
    obtain ⟨a, its, rfl, _, ha, ma, _⟩ := hu
    obtain ⟨b, jts, rfl, _, hb, mb, _⟩ := hv
    have hz : jts.size = 0 := by have := of_map_len mb; simpa using this
    have h1 := eq_lists (prog := prog) (w := w) (A := A) (h := s.heap) rfl ha.isList hb.isList hz hA
    have h2 := ne_lists (prog := prog) (w := w) (A := A) (h := s.heap) rfl ha.isList hb.isList hz hA
    have e := of_map_len ma
    rw [← Array.length_toList, e, len_zero] at h1 h2
    exact ⟨h1, h2⟩
theorem pvEq_ok {p q : PV} {c : Bool} {u v : Value} {W W' : List Addr} (h : pvEq p q = some c) (hu : Rep prog w W s.heap p u) (hv : Rep prog w W' s.heap q v) (hA : A.units < cLine) :
    Says (model prog w) A (compareOp .Eq u v) s c := by
  replace h := one_some h
  rcases h with ⟨a, ha, h1⟩ | h
  · replace h1 := one_last h1
    obtain ⟨b, hb, h2⟩ := h1
    replace h2 := iff_some h2
    obtain ⟨he, h3⟩ := h2
    cases m_eq ha; cases l_eq hb; cases h3; cases List.isEmpty_iff.mp he
    obtain ⟨a, its, rfl, _, ha, ma, _⟩ := hu
    obtain ⟨b, jts, rfl, _, hb, mb, _⟩ := hv
    have := eq_lists (prog := prog) (w := w) (A := A) (h := s.heap) rfl ha.isList hb.isList (by have := of_map_len mb; simpa using this) hA
    have e := ma.length
    rw [← Array.length_toList, ← e, len_zero] at this
    exact this
  · exact (pvEqT_ok h hu hv hA).1

theorem str_lt1 (a b : Nat) : decide (([b] : List Nat) < [a]) = decide (b < a) := by
  have : (([b] : List Nat) < [a]) ↔ b < a := by rw [List.cons_lt_cons_iff]; simp
  simp only [this]
theorem ordI_ok {o : COp} {a b : Int} {c : Bool} {t u : Tok} (h : ordI o a b = some c) : Says (model prog w) A (compareOp (copOf o) (.int a t) (.int b u)) s c := by
  intro E
  cases o <;> simp only [ordI] at h <;> cases h
  · exact PyProof.Rows.lt_int ⟨rfl, Keeps.refl _⟩
  · exact PyProof.Rows.le_int ⟨rfl, Keeps.refl _⟩
  · exact PyProof.Rows.gt_int ⟨rfl, Keeps.refl _⟩
  · exact PyProof.Rows.ge_int ⟨rfl, Keeps.refl _⟩
theorem ordV_ok {o : COp} {p q : PV} {c : Bool} {u v : Value} {W W' : List Addr} (h : ordV o p q = some c) (hu : Rep prog w W s.heap p u) (hv : Rep prog w W' s.heap q v) :
    Says (model prog w) A (compareOp (copOf o) u v) s c := by
  rcases onI_some h with ⟨a, rfl, h1⟩ | h0
  · replace h1 := onI_last h1
    obtain ⟨b, rfl, h2⟩ := h1
    replace hv := of_int hv
    obtain ⟨t, rfl⟩ := of_int hu; obtain ⟨t', rfl⟩ := hv
    exact ordI_ok h2
  · replace h0 := onS_last h0
    obtain ⟨l, rfl, h1⟩ := h0
    replace h1 := onS_last h1
    obtain ⟨m, rfl, h2⟩ := h1
    replace h2 := one_last h2
    obtain ⟨a, ha, h3⟩ := h2
    replace h3 := one_last h3
    obtain ⟨b, hb, h4⟩ := h3
    replace h4 := iff_some h4
    obtain ⟨ho, h5⟩ := h4
    cases sing_eq ha; cases sing_eq hb; cases isLe_eq ho; cases h5
    replace hv := of_str hv
    obtain ⟨t, rfl, _⟩ := of_str hu; obtain ⟨t', rfl, _⟩ := hv
    intro E
    refine P.le_str ⟨?_, Keeps.refl _⟩
    have e : (decide (a ≤ b)) = !decide (([b] : List Nat) < [a]) := by
      rw [str_lt1]
      by_cases h : a ≤ b
      · simp [h]
      · have : b < a := by omega
        simp [h, this]
    simp only [e]

theorem isNone_ok {p : PV} {v : Value} {W : List Addr} (h : isNone p = true) (hv : Rep prog w W s.heap p v) : v = .none := by
  replace h := none_eq h
  subst h
  exact of_none hv
theorem isV_ok {p q : PV} {c : Bool} {u v : Value} {W W' : List Addr} (h : isV q p = some c) (hu : Rep prog w W s.heap p u) (hv : Rep prog w W' s.heap q v) :
    Says (model prog w) A (compareOp .Is u v) s c ∧ Says (model prog w) A (compareOp .IsNot u v) s (!c) := by
  replace h := iff_some h
  obtain ⟨hn, h1⟩ := h
  have := isNone_ok hn hv
  subst this
  cases hp : isNone p with
  | true =>
    rw [hp] at h1
    cases h1
    have := isNone_ok hp hu
    subst this
    exact ⟨fun E => wpAny_is_self rfl ⟨rfl, Keeps.refl _⟩, fun E => wpAny_isNot_self rfl ⟨rfl, Keeps.refl _⟩⟩
  | false =>
    rw [hp] at h1
    replace h1 := one_last h1
    obtain ⟨l, hl, h2⟩ := h1
    cases u_eq hl; cases h2
    obtain ⟨a, its, rfl, _⟩ := hu
    exact ⟨fun E => wpAny_is_other rfl (fun e => nomatch e) ⟨rfl, Keeps.refl _⟩, fun E => wpAny_isNot_other rfl (fun e => nomatch e) ⟨rfl, Keeps.refl _⟩⟩
theorem pvIn_ok {p q : PV} {c : Bool} {u v : Value} {W W' : List Addr} (h : pvIn p q = some c) (hu : Rep prog w W s.heap p u) (hv : Rep prog w W' s.heap q v) :
    Says (model prog w) A (compareOp .In u v) s c ∧ Says (model prog w) A (compareOp .NotIn u v) s (!c) := by
  replace h := onC_last h
  obtain ⟨x, rfl, h1⟩ := h
  replace h1 := one_some h1
  rcases h1 with ⟨l, hl, h2⟩ | h2
  · replace hl := u_eq hl
    subst hl
    exact isinL_tup hu h2 hv
  replace h2 := one_last h2
  obtain ⟨i, hi, h3⟩ := h2
  replace hi := i_eq hi
  subst hi
  replace hu := of_int hu
  obtain ⟨t, rfl⟩ := hu
  replace h3 := onB_some h3
  rcases h3 with ⟨l, rfl, h4⟩ | h4
  · replace h4 := if_some h4
    obtain ⟨hb, h5⟩ := h4
    cases h5
    replace hv := of_bytes hv
    obtain ⟨b, t', rfl, rfl, _⟩ := hv
    exact in_bytes hb.1 hb.2
  · replace h4 := one_last h4
    obtain ⟨d, hd, h5⟩ := h4
    cases di_eq hd; cases h5
    obtain ⟨a, f, rfl, _, hs, hm, hf⟩ := hv
    have hk : (intKind prog w).is i (.int i t) = true := by simp [intKind, Value.isInt]
    have e := congrArg Option.isSome (hf i)
    simp only [Option.isSome_map] at e
    rw [← e]
    exact ⟨fun E => wpAny_in_of hk (by simpa using hs) hm ⟨rfl, Keeps.tk _ _⟩, fun E => wpAny_notIn_of hk (by simpa using hs) hm ⟨rfl, Keeps.tk _ _⟩⟩

theorem cop_ok {o : COp} {p q : PV} {c : Bool} {u v : Value} {W W' : List Addr} (h : cop o p q = some c) (hu : Rep prog w W s.heap p u) (hv : Rep prog w W' s.heap q v) (hA : A.units < cLine) :
    Says (model prog w) A (compareOp (copOf o) u v) s c := by
  induction o with
  | eq => exact pvEq_ok h hu hv hA
  | ne =>
    replace h := map_s h
    obtain ⟨d, hd, rfl⟩ := h
    exact (pvEqT_ok hd hu hv hA).2
  | isin => exact (pvIn_ok h hu hv).1
  | notin =>
    replace h := map_s h
    obtain ⟨d, hd, rfl⟩ := h
    exact (pvIn_ok hd hu hv).2
  | is => exact (isV_ok h hu hv).1
  | isnot =>
    replace h := map_s h
    obtain ⟨d, hd, rfl⟩ := h
    exact (isV_ok hd hu hv).2
  | _ => exact ordV_ok h hu hv
end
end Mine

end
section
open PySem PySem.W PyProof.Rows PySem.Calls
open PySem.SeqAt PySem.SeqRoads2
set_option Elab.async false
set_option autoImplicit false
namespace Mine
section
variable {prog : Program} {w : World} {A : Around} {s : Shared} {V : List Addr}

noncomputable def noSlice (e : PySem.Expr) : Bool := !Nat.beq e.ctorIdx 26
theorem subscripted_plain {e : PySem.Expr} (h : noSlice e = true) (o i : Value) : subscripted e false o i = operate [o, i] (getItem o i) := by
  cases e <;> first | rfl | exact Bool.noConfusion (show false = true from h)

theorem pos_some {n : Nat} {i : Int} {k : Nat} (h : pos n i = some k) : -(2 ^ 62) < i ∧ i < 2 ^ 62 ∧ seqIndex? i n = some k := by
  replace h := if_some h
  obtain ⟨hb, h⟩ := h
  exact ⟨hb.1, hb.2, h⟩
theorem seqIndex_pos {n : Nat} {i : Int} {k : Nat} (h : seqIndex? i n = some k) : (0 ≤ i ∧ k = i.toNat ∧ k < n) ∨ (i < 0 ∧ -(n : Int) ≤ i ∧ k = (i + n).toNat ∧ k < n) := by
  unfold seqIndex? at h
  by_cases hi : i < 0
  · simp only [hi, if_true, Bool.and_eq_true, decide_eq_true_eq] at h
    by_cases hb : 0 ≤ i + n ∧ i + n < n
    · rw [if_pos hb] at h; cases h; right; exact ⟨hi, by omega (splitDisjunctions := true), rfl, by omega (splitDisjunctions := true)⟩
    · rw [if_neg hb] at h; cases h
  · simp only [hi, if_false, Bool.and_eq_true, decide_eq_true_eq] at h
    by_cases hb : 0 ≤ i ∧ i < n
    · rw [if_pos hb] at h; cases h; left; exact ⟨by omega (splitDisjunctions := true), rfl, by omega (splitDisjunctions := true)⟩
    · rw [if_neg hb] at h; cases h

theorem getList {a : Addr} {its : Array Value} {i : Int} {u : Tok} {k : Nat} {v : Value} {Q E : Value → Shared → Prop} (hl : s.heap.IsList a its) (hb : -(2 ^ 62) < i ∧ i < 2 ^ 62) (hk : seqIndex? i its.size = some k) (hv : its[k]? = some v)
    (h : Q v s) : wpAny (model prog w) A (getItem (.ref a) (.int i u)) Q E s := by
  replace hk := seqIndex_pos hk
  rcases hk with ⟨h0, rfl, _⟩ | ⟨h0, h1, rfl, _⟩
  · exact wpAny_getItem_list hl h0 (by omega) hv h
  · exact wpAny_getItem_list_neg hl h0 h1 (by omega) hv h

theorem tupRep {V : List Addr} {l : List (List Sc)} {its : Array Value} {h : Heap} (hp : Paired (RepTup V h) l its.toList) {k : Nat} {t : List Sc} (hk : l[k]? = some t) : ∃ v, its[k]? = some v ∧ RepTup V h t v := by
  have key : ∀ {l : List (List Sc)} {r : List Value}, Paired (RepTup V h) l r → ∀ {k : Nat} {t : List Sc}, l[k]? = some t → ∃ v, r[k]? = some v ∧ RepTup V h t v := by
    intro l r hp
    induction hp with
    | nil => intro k t hk; cases hk
    | cons h1 _ ih =>
      intro k t hk
      rcases k with _ | k
      ·
        cases hk; exact ⟨_, rfl, h1⟩
      ·
        exact ih hk
  obtain ⟨v, hv, hr⟩ := key hp hk
  exact ⟨v, by simpa using hv, hr⟩

theorem index_ok {p q r : PV} {u v : Value} {W W' : List Addr} {value sl : PySem.Expr} (h : index p q = some r) (hn : noSlice sl = true) (hu : Rep prog w W s.heap p u) (hv : Rep prog w W' s.heap q v) :
    Gives (model prog w) A (subscriptTail value sl u v) s (fun h x => Rep prog w W h r x) := by
  intro E
  have hs := subscripted_plain hn
  replace h := onI_last h
  obtain ⟨i, rfl, h0⟩ := h
  replace hv := of_int hv
  obtain ⟨t', rfl⟩ := hv
  replace h0 := onS_some h0
  rcases h0 with ⟨l, rfl, h1⟩ | h0
  · replace hu := of_str hu
    obtain ⟨t, rfl, hl⟩ := hu
    replace h1 := bind_s h1
    obtain ⟨k, hk, h2⟩ := h1
    replace h2 := map_s h2
    obtain ⟨c, hc, rfl⟩ := h2
    replace hk := pos_some hk
    obtain ⟨b1, b2, hk⟩ := hk
    refine tail_any (typeIs_str _ _ _) F.slot_str_getitem.lookup (PyProof.Rows.getItem_str (c := c) (by simp only [Bool.or_eq_false_iff, decide_eq_false_iff_not]; omega) ?_ ⟨Keeps.tk _ _, ?_⟩) (hs _ _)
    · show (seqIndex? _ (List.toArray _).size).bind _ = _
      rw [List.size_toArray, hk]
      simpa using hc
    · exact of_str_mk (l := [c]) _ (by simp [lim_val])
  replace h0 := onB_some h0
  rcases h0 with ⟨l, rfl, h1⟩ | h0
  · replace hu := of_bytes hu
    obtain ⟨b, t, rfl, rfl, hl⟩ := hu
    replace h1 := bind_s h1
    obtain ⟨k, hk, h2⟩ := h1
    replace h2 := map_s h2
    obtain ⟨c, hc, rfl⟩ := h2
    replace hk := pos_some hk
    obtain ⟨b1, b2, hk⟩ := hk
    rw [List.getElem?_map, Option.map_eq_some_iff] at hc
    obtain ⟨c', hc', rfl⟩ := hc
    rw [List.length_map, Array.length_toList] at hk
    refine tail_any (typeIs_bytes _ _ _) FB.slot_bytes_getitem.lookup (getItem_gives (typeIs_bytes s _ t) (by decide) FB.slot_bytes_getitem FB.entry_bytes_getitem (FB.args_bytes_getitem_2 _ _) (gives_bytes_getitem _ _ t t' c' ?_ ?_) ⟨Keeps.tk _ _, rfl⟩) (hs _ _)
    · simp only [Builtin.Bytes.fitsIndex, Bool.and_eq_true, decide_eq_true_eq]; omega
    · rw [hk]; simpa using hc'
  replace h0 := one_some h0
  rcases h0 with ⟨l, hx, h1⟩ | h0
  · cases l_eq hx
    obtain ⟨a, its, rfl, ha, hl, hm, _⟩ := hu
    replace h1 := bind_s h1
    obtain ⟨k, hk, h2⟩ := h1
    replace h2 := map_s h2
    obtain ⟨c, hc, rfl⟩ := h2
    replace hk := pos_some hk
    obtain ⟨b1, b2, hk⟩ := hk
    obtain ⟨x, hx, hxc⟩ := of_map_get' hm hc
    have e := of_map_len hm
    rw [← e, Array.length_toList] at hk
    exact tail_any hl.isList.typeIs slot_list_getitem.lookup (getList hl.isList ⟨b1, b2⟩ hk (by simpa using hx) ⟨Keeps.refl _, hxc⟩) (hs _ _)
  replace h0 := one_some h0
  rcases h0 with ⟨l, hx, h1⟩ | h0
  · cases u_eq hx
    obtain ⟨a, its, rfl, ha, hl, hm⟩ := hu
    replace h1 := bind_s h1
    obtain ⟨k, hk, h2⟩ := h1
    replace h2 := map_s h2
    obtain ⟨c, hc, rfl⟩ := h2
    replace hk := pos_some hk
    obtain ⟨b1, b2, hk⟩ := hk
    obtain ⟨x, hx, hxc⟩ := of_map_get' hm hc
    have e := of_map_len hm
    rw [← e, Array.length_toList] at hk
    have hT : s.TypeIs (.ref a) "tuple" := let ⟨o, ho, hc, _⟩ := hl; ⟨o, ho, hc⟩
    exact tail_any hT F.slot_tuple_getitem.lookup (PyProof.Rows.getItem_tuple hl (by omega) (by omega) hk (by simpa using hx) ⟨Keeps.refl _, hxc⟩) (hs _ _)
  replace h0 := one_some h0
  rcases h0 with ⟨l, hx, h1⟩ | h0
  · cases m_eq hx
    obtain ⟨a, its, rfl, ha, hl, hm, _⟩ := hu
    replace h1 := bind_s h1
    obtain ⟨k, hk, h2⟩ := h1
    replace h2 := map_s h2
    obtain ⟨c, hc, rfl⟩ := h2
    replace hk := pos_some hk
    obtain ⟨b1, b2, hk⟩ := hk
    obtain ⟨x, hx, hxc⟩ := tupRep hm hc
    have e := hm.length
    rw [e, Array.length_toList] at hk
    exact tail_any hl.isList.typeIs slot_list_getitem.lookup (getList hl.isList ⟨b1, b2⟩ hk hx ⟨Keeps.refl _, hxc⟩) (hs _ _)
  replace h0 := one_some h0
  rcases h0 with ⟨d, hx, h1⟩ | h0
  · cases di_eq hx
    obtain ⟨a, f, rfl, ha, hsy, hm, hf⟩ := hu
    replace h1 := map_s h1
    obtain ⟨c, hc, rfl⟩ := h1
    have e := hf i
    rw [hc] at e
    simp only [Option.map_some, Option.map_eq_some_iff] at e
    obtain ⟨x, hx, hxc⟩ := e
    have hk : (intKind prog w).is i (.int i t') = true := by simp [intKind, Value.isInt]
    exact tail_any hm.typeIs slot_dict_getitem.lookup (wpAny_getItem_of hk hm hx ⟨Keeps.tk _ _, hxc⟩) (hs _ _)
  · replace h0 := one_last h0
    obtain ⟨x, hx, h1⟩ := h0
    replace hx := p_eq hx
    subst hx
    obtain ⟨c, its, t, u, rfl, hp, hl, hc, hne, hlc, hm, hle⟩ := hu
    by_cases e0 : i = 0
    · rw [if_pos e0] at h1
      cases h1; subst e0
      exact tail_any hl.typeIs slot_list_getitem.lookup (getList hl ⟨by decide, by decide⟩ (k := 0) (by rfl) (by rfl) ⟨Keeps.refl _, c, its, rfl, hc, hlc, hm, by simpa using hle⟩) (hs _ _)
    rw [if_neg e0] at h1
    by_cases e1 : i = 1
    · rw [if_pos e1] at h1
      cases h1; subst e1
      exact tail_any hl.typeIs slot_list_getitem.lookup (getList hl ⟨by decide, by decide⟩ (k := 1) (v := .int _ t) (by rfl) (by rfl) ⟨Keeps.refl _, rfl⟩) (hs _ _)
    rw [if_neg e1] at h1
    replace h1 := if_some h1
    obtain ⟨e2, h2⟩ := h1
    cases h2; subst e2
    exact tail_any hl.typeIs slot_list_getitem.lookup (getList hl ⟨by decide, by decide⟩ (k := 2) (v := .int _ u) (by rfl) (by rfl) ⟨Keeps.refl _, rfl⟩) (hs _ _)

theorem slice_text (x : Str) (lo hi : Option Int) : (Txt.slice x lo hi).cps.toList = cutL x.cps.toList lo hi := by
  have e : Builtin.Str.strSliceIndices lo hi 1 x.length = sliceRange ((lo.elim 0 (clipAt x.length) : Nat) : Int) ((hi.elim x.length (clipAt x.length) : Nat) : Int) 1 := by
    unfold Builtin.Str.strSliceIndices
    cases lo <;> cases hi <;> simp only [Option.elim, clipAt_cast, show (1 : Int) > 0 by decide, if_true] <;> rfl
  have e2 : (Builtin.Str.strSliceIndices lo hi 1 x.length).filterMap (x.cps[·]?) = cutL x.cps.toList lo hi := by
    rw [e, sliceRange_one, pick_run]
    unfold cutL
    rw [Array.length_toList]
    rfl
  unfold Txt.slice
  split
  · rename_i hc
    simp only [beq_self_eq_true, Bool.true_and, beq_iff_eq] at hc
    have e3 : cutL x.cps.toList lo hi = (x.cps.toList.drop (lo.elim 0 (clipAt x.length))).take (hi.elim x.length (clipAt x.length) - lo.elim 0 (clipAt x.length)) := by
      unfold cutL
      rw [Array.length_toList]; rfl
    rw [e, sliceRange_one, List.length_map, List.length_range] at hc
    have hx : x.cps.toList.length = x.length := Array.length_toList
    have hh : hi.elim x.length (clipAt x.length) ≤ x.length := by
      induction hi with
      | none => exact Nat.le_refl _
      | some j =>
        show clipAt x.length j ≤ x.length
        have := clipAt_cast x.length j
        omega (splitDisjunctions := true)
    rw [e3]
    have h0 : lo.elim 0 (clipAt x.length) = 0 ∨ x.length = 0 := by omega (splitDisjunctions := true)
    rcases h0 with h0 | h0
    · rw [h0] at hc ⊢
      rw [List.drop_zero, List.take_of_length_le (by omega (splitDisjunctions := true))]
    · have : x.cps.toList = [] := List.eq_nil_of_length_eq_zero (by omega (splitDisjunctions := true))
      rw [this]; simp
  · exact e2

theorem cut_map {α β : Type} (f : α → β) (l : List α) (lo hi : Option Int) : (cutL l lo hi).map f = cutL (l.map f) lo hi := by
  unfold cutL
  rw [List.map_take, List.map_drop, List.length_map]
theorem cut_len {α : Type} (l : List α) (lo hi : Option Int) : (cutL l lo hi).length ≤ l.length := by
  unfold cutL
  rw [List.length_take, List.length_drop]; omega (splitDisjunctions := true)

theorem slice_str {l : List Nat} {t : Tok} {vl vu : Value} {a : Addr} {lo hi : Option Int} {value : PySem.Expr} {a1 a2 : Option PySem.Expr} {sp : Pos} (hl : l.length ≤ lim)
    (hS : s.heap.IsSliceOf a vl vu .none) (pl : IsPart vl lo) (pu : IsPart vu hi) {E : Value → Shared → Prop} {Q : Value → Shared → Prop}
    (hQ : ∀ v k, Sc.of v = some (.str (cutL l lo hi)) → Q v { s with toks := k }) :
    wpAny (model prog w) A (subscriptTail value (.Slice a1 a2 none sp) (.str ⟨l.toArray⟩ t) (.ref a)) Q E s := by
  have : ∃ l' u' : Option (Int × Tok), vl = partValue l' ∧ vu = partValue u' ∧ lo = l'.map (·.1) ∧ hi = u'.map (·.1) := by
    induction pl with
    | none => cases pu with
      | none => exact ⟨none, none, rfl, rfl, rfl, rfl⟩
      | int j t' => exact ⟨none, some (j, t'), rfl, rfl, rfl, rfl⟩
    | int i t => cases pu with
      | none => exact ⟨some (i, t), none, rfl, rfl, rfl, rfl⟩
      | int j t' => exact ⟨some (i, t), some (j, t'), rfl, rfl, rfl, rfl⟩
  obtain ⟨l', u', rfl, rfl, rfl, rfl⟩ := this
  have e : (Txt.slice ⟨l.toArray⟩ (l'.map (·.1)) (u'.map (·.1))).cps.toList = cutL l (l'.map (·.1)) (u'.map (·.1)) := by
    exact slice_text ⟨l.toArray⟩ (l'.map (·.1)) (u'.map (·.1))
  generalize hx : Txt.slice ⟨l.toArray⟩ (l'.map (·.1)) (u'.map (·.1)) = x at e
  have hlen : x.cps.size ≤ lim := by
    rw [← Array.length_toList, e]
    exact Nat.le_trans (cut_len _ _ _) hl
  have hle : x.length ≤ sizeLine := Nat.le_trans hlen lim_le
  have hq : ∀ t' k, Q (.str x t') { s with toks := k } := fun t' k => by
    have := of_str_mk' (s := x) t' hlen
    rw [e] at this
    exact hQ _ _ this
  have hp : (sliceMade ⟨l.toArray⟩ t l' u' none).post Q s := by
    subst hx
    unfold Txt.slice at hle hq
    unfold sliceMade slicePicked
    exact post_val_or_str ⟨hle, hq⟩
  exact tail_any (typeIs_str _ _ _) F.slot_str_getitem.lookup (wpAny_getItem_str_slice (l := l') (u := u') (st := none) hS rfl hp) rfl
theorem slice_bytes {b : Array UInt8} {t : Tok} {vl vu : Value} {a : Addr} {lo hi : Option Int} {value : PySem.Expr} {a1 a2 : Option PySem.Expr} {sp : Pos} (hl : b.size ≤ lim)
    (hS : s.heap.IsSliceOf a vl vu .none) (pl : IsPart vl lo) (pu : IsPart vu hi) {E : Value → Shared → Prop} {Q : Value → Shared → Prop}
    (hQ : ∀ v k, Sc.of v = some (.bytes (cutL (b.toList.map UInt8.toNat) lo hi)) → Q v { s with toks := k }) :
    wpAny (model prog w) A (subscriptTail value (.Slice a1 a2 none sp) (.bytes b t) (.ref a)) Q E s := by
  have e : (KBy.picked b lo hi).toList.map UInt8.toNat = cutL (b.toList.map UInt8.toNat) lo hi := by
    rw [KBc.picked_eq, List.toList_toArray, ← cut_map]
    unfold cutL
    rw [Array.length_toList]
  have hlen : (KBy.picked b lo hi).size ≤ lim := Nat.le_trans (KBc.size_picked_le b lo hi) hl
  have hle : (KBy.picked b lo hi).size ≤ sizeLine := Nat.le_trans hlen lim_le
  refine tail_any (typeIs_bytes _ _ _) FB.slot_bytes_getitem.lookup (getItem_meets (typeIs_bytes _ _ _) (by decide) FB.slot_bytes_getitem FB.entry_bytes_getitem (FB.args_bytes_getitem_2 _ _) (KBc.meets_slice2 b t _ pl pu)
    ⟨hS, hle, fun t' k => hQ _ _ ?_⟩) rfl
  have := of_bytes_mk t' hlen
  rw [e] at this
  exact this
theorem slice_list {l : List Sc} {u vl vu : Value} {a : Addr} {lo hi : Option Int} {W : List Addr} {value : PySem.Expr} {a1 a2 : Option PySem.Expr} {sp : Pos} (hL : Live V s.heap)
    (hS : s.heap.IsSliceOf a vl vu .none) (pl : IsPart vl lo) (pu : IsPart vu hi) (hu : RepL W s.heap l u) :
    Gives (model prog w) A (subscriptTail value (.Slice a1 a2 none sp) u (.ref a)) s (fun h x => RepL V h (cutL l lo hi) x) := by
  intro E
  obtain ⟨b, its, rfl, hb, hl, hm, hlen⟩ := hu
  have e1 := of_map_len hm
  have hsz : its.size ≤ sizeLine := by have := lim_le; rw [← Array.length_toList]; omega
  refine tail_any hl.isList.typeIs slot_list_getitem.lookup (wpAny_getItem_list_slice hl.isList hS pl pu .none (by simp) ?_ hsz) rfl
  refine ⟨Keeps.mk' (t := s.toks) (ext_push _ _), _, _, rfl, hL.fresh, ⟨_, Heap.get?_push_size _ rfl⟩, ?_, Nat.le_trans (cut_len _ _ _) hlen⟩
  rw [slicePick_plain, List.toList_toArray, ← Array.length_toList]
  show (cutL its.toList lo hi).map Sc.of = _
  rw [cut_map, hm, ← cut_map]

theorem slice_ok {p r : PV} {u vl vu : Value} {a : Addr} {lo hi : Option Int} {W : List Addr} {value : PySem.Expr} {a1 a2 : Option PySem.Expr} {sp : Pos} (h : slice p lo hi = some r) (hL : Live V s.heap)
    (hS : s.heap.IsSliceOf a vl vu .none) (pl : IsPart vl lo) (pu : IsPart vu hi) (hu : Rep prog w W s.heap p u) :
    Gives (model prog w) A (subscriptTail value (.Slice a1 a2 none sp) u (.ref a)) s (fun h x => Rep prog w V h r x) := by
  intro E
  replace h := iff_some h
  obtain ⟨_, h0⟩ := h
  replace h0 := onS_some h0
  rcases h0 with ⟨l, rfl, h1⟩ | h0
  · cases h1
    replace hu := of_str hu
    obtain ⟨t, rfl, hl⟩ := hu
    exact slice_str hl hS pl pu fun v k e => ⟨Keeps.tk _ _, e⟩
  replace h0 := onB_some h0
  rcases h0 with ⟨l, rfl, h1⟩ | h0
  · cases h1
    replace hu := of_bytes hu
    obtain ⟨b, t, rfl, rfl, hl⟩ := hu
    exact slice_bytes (by simpa using hl) hS pl pu fun v k e => ⟨Keeps.tk _ _, e⟩
  · replace h0 := one_last h0
    obtain ⟨l, hx, h1⟩ := h0
    cases l_eq hx; cases h1
    exact slice_list hL hS pl pu hu E
end
end Mine

end
section
open PySem PySem.W PyProof.Rows PySem.Calls
open PySem.SeqAt PySem.SeqRoads2
set_option Elab.async false
set_option autoImplicit false
namespace Mine
section
variable {prog : Program} {w : World} {A : Around} {s : Shared} {V : List Addr}

theorem toBytes_ok : ∀ {cs : List Sc} {bs : List Nat} {vs : List Value}, toBytes cs = some bs → vs.map Sc.of = cs.map some → ∃ ns, IntsAre vs ns ∧ (∀ n ∈ ns, 0 ≤ n ∧ n < 256) ∧ bs = ns.map Int.toNat := by
  intro cs
  induction cs with
  | nil =>
    intro bs vs h hm
    have : vs = [] := by simpa using hm
    subst this
    cases h
    exact ⟨[], .nil, fun _ hn => (nomatch hn), rfl⟩
  | cons c r ih =>
    intro bs vs h hm
    rcases vs with _ | ⟨v, vs⟩
    ·
      cases hm
    ·
      simp only [List.map_cons, List.cons.injEq] at hm
      unfold toBytes at h
      split at h
      · rename_i heq; cases heq
      · rename_i i r' heq
        cases heq
        split at h
        · rename_i hb
          replace h := map_s h
          obtain ⟨b', hb', rfl⟩ := h
          obtain ⟨ns, hi, hr, rfl⟩ := ih hb' hm.2
          obtain ⟨t, rfl⟩ := of_int hm.1
          refine ⟨i :: ns, .cons _ _ hi, fun n hn => ?_, rfl⟩
          replace hn := List.mem_cons.mp hn
          rcases hn with rfl | hn
          · exact hb
          · exact hr n hn
        · cases h
      · cases h

noncomputable def biVal : Bi → Value
  | .len => .builtin "len"
  | .ord => .builtin "ord"
  | .chr => .builtin "chr"
  | .bytes => .type "bytes"
  | .range => .type "range"
  | .max => .builtin "max"
  | .min => .builtin "min"
  | .dict => .type "dict"
  | .int => .type "int"
  | .sum => .builtin "sum"
  | .abs => .builtin "abs"

theorem paired_cons {α β : Type} {F : α → β → Prop} {a : α} {l : List α} {r : List β} (h : Paired F (a :: l) r) : ∃ b r', r = b :: r' ∧ F a b ∧ Paired F l r' := by
  cases h with
  | cons h t => exact ⟨_, _, rfl, h, t⟩
theorem paired_nil {α β : Type} {F : α → β → Prop} {r : List β} (h : Paired F ([] : List α) r) : r = [] := by
  cases h; rfl

theorem bytesArr_nat {ns : List Int} (hr : ∀ n ∈ ns, 0 ≤ n ∧ n < 256) : (byteArr ns).toList.map UInt8.toNat = ns.map Int.toNat := by
  unfold byteArr
  rw [List.toList_toArray, List.map_map]
  apply List.map_congr_left
  intro n hn
  have := hr n hn
  simp only [Function.comp]
  show (UInt8.ofNat n.toNat).toNat = n.toNat
  rw [UInt8.toNat_ofNat']; omega

theorem intsOf_ok : ∀ {cs : List Sc} {ns : List Int} {vs : List Value}, intsOf cs = some ns → vs.map Sc.of = cs.map some → ∃ xs : List (Int × Tok), vs = xs.map (fun x => .int x.1 x.2) ∧ ns = xs.map (·.1) := by
  intro cs
  induction cs with
  | nil =>
    intro ns vs h hm
    have : vs = [] := by simpa using hm
    subst this
    cases h
    exact ⟨[], rfl, rfl⟩
  | cons c r ih =>
    intro ns vs h hm
    rcases vs with _ | ⟨v, vs⟩
    ·
      cases hm
    ·
      simp only [List.map_cons, List.cons.injEq] at hm
      unfold intsOf at h
      split at h
      · rename_i heq; cases heq
      · rename_i i r' heq
        cases heq
        replace h := map_s h
        obtain ⟨b', hb', rfl⟩ := h
        obtain ⟨xs, rfl, rfl⟩ := ih hb' hm.2
        obtain ⟨t, rfl⟩ := of_int hm.1
        exact ⟨(i, t) :: xs, rfl, rfl⟩
      · cases h
theorem bi_ok {b : Bi} {ps : List PV} {r : PV} {vs : List Value} {W : List Addr} (h : biF b ps = some r) (hA : A.handled = none) (hL : Live V s.heap) (hp : Paired (Rep prog w W s.heap) ps vs) :
    Gives (model prog w) A (call (biVal b) vs) s (fun h x => Rep prog w V h r x) := by
  intro E
  cases b with
  | len =>
    replace h := arg1_some h
    obtain ⟨p, rfl, h1⟩ := h
    replace hp := paired_cons hp
    obtain ⟨v, _, rfl, hv, hp⟩ := hp
    replace hp := paired_nil hp
    subst hp
    replace h1 := onS_some h1
    rcases h1 with ⟨l, rfl, h2⟩ | h1
    · cases h2
      replace hv := of_str hv
      obtain ⟨t, rfl, hl⟩ := hv
      rw [lim_val] at hl
      refine PyProof.Rows.len_str ?_ ⟨Keeps.tk _ _, ?_⟩
      · simp only [Str.length, List.size_toArray]; omega
      · simp [Rep, Sc.of, Str.length]
    replace h1 := onB_some h1
    rcases h1 with ⟨l, rfl, h2⟩ | h1
    · cases h2
      replace hv := of_bytes hv
      obtain ⟨x, t, rfl, rfl, hl⟩ := hv
      rw [lim_val, List.length_map, Array.length_toList] at hl
      refine PySem.W.len_bytes (by omega) ⟨Keeps.tk _ _, ?_⟩
      simp [Rep, Sc.of]
    replace h1 := one_some h1
    rcases h1 with ⟨l, hx, h2⟩ | h1
    · cases l_eq hx; cases h2
      obtain ⟨a, its, rfl, _, hl, hm, hlen⟩ := hv
      have e := of_map_len hm
      rw [Array.length_toList] at e
      rw [lim_val] at hlen
      refine Calls.call_len_list hl.isList (by omega) ⟨Keeps.tk _ _, ?_⟩
      simp [Rep, Sc.of, e]
    · replace h1 := one_last h1
      obtain ⟨l, hx, h2⟩ := h1
      cases m_eq hx; cases h2
      obtain ⟨a, its, rfl, _, hl, hm, hlen⟩ := hv
      have e := hm.length
      simp only [Array.length_toList] at e
      rw [lim_val] at hlen
      refine Calls.call_len_list hl.isList (by omega) ⟨Keeps.tk _ _, ?_⟩
      simp [Rep, Sc.of, e]
  | ord =>
    replace h := arg1_some h
    obtain ⟨p, rfl, h1⟩ := h
    replace hp := paired_cons hp
    obtain ⟨v, _, rfl, hv, hp⟩ := hp
    replace hp := paired_nil hp
    subst hp
    replace h1 := onS_last h1
    obtain ⟨l, rfl, h2⟩ := h1
    replace h2 := one_last h2
    obtain ⟨c, hc, h3⟩ := h2
    cases sing_eq hc; cases h3
    replace hv := of_str hv
    obtain ⟨t, rfl, hl⟩ := hv
    exact P.ord_of_char ⟨Keeps.tk _ _, rfl⟩
  | chr =>
    replace h := arg1_some h
    obtain ⟨p, rfl, h1⟩ := h
    replace hp := paired_cons hp
    obtain ⟨v, _, rfl, hv, hp⟩ := hp
    replace hp := paired_nil hp
    subst hp
    replace h1 := onI_last h1
    obtain ⟨i, rfl, h2⟩ := h1
    replace h2 := if_some h2
    obtain ⟨hi, h3⟩ := h2
    cases h3
    replace hv := of_int hv
    obtain ⟨t, rfl⟩ := hv
    exact P.chr_of_int (by simp only [Bool.or_eq_false_iff, decide_eq_false_iff_not]; omega) ⟨Keeps.tk _ _, of_str_mk (l := [_]) _ (by simp [lim_val])⟩
  | bytes =>
    replace h := arg1_some h
    obtain ⟨p, rfl, h1⟩ := h
    replace hp := paired_cons hp
    obtain ⟨v, _, rfl, hv, hp⟩ := hp
    replace hp := paired_nil hp
    subst hp
    replace h1 := one_last h1
    obtain ⟨l, hx, h2⟩ := h1
    replace hx := l_eq hx
    subst hx
    replace h2 := map_s h2
    obtain ⟨bs, hb, rfl⟩ := h2
    obtain ⟨a, its, rfl, _, hl, hm, hlen⟩ := hv
    obtain ⟨ns, hi, hr, rfl⟩ := toBytes_ok hb hm
    have e := of_map_len hm
    have hsz : its.toList.length ≤ sizeLine := by rw [e]; exact Nat.le_trans hlen lim_le
    have hl' : s.heap.IsList a its.toList.toArray := by simpa using hl.isList
    refine call_bytes_ints hl' hi hr hsz hA fun h' t k hk => ⟨Keeps.mk' hk, ?_⟩
    have hs : (byteArr ns).size ≤ lim := by rw [byteArr_size, ← hi.length, e]; exact hlen
    have := of_bytes_mk t hs
    rw [bytesArr_nat hr] at this
    exact this
  | range =>
    cases ps with
    | nil => exact ns h
    | cons p ps =>
    replace hp := paired_cons hp
    obtain ⟨v, _, rfl, hv, hp1⟩ := hp
    replace h := onI_last h
    obtain ⟨i, rfl, h1⟩ := h
    replace hv := of_int hv
    obtain ⟨t, rfl⟩ := hv
    rcases ps with _ | ⟨q, ps⟩
    ·
      replace hp1 := paired_nil hp1
      subst hp1
      replace h1 := if_some h1
      obtain ⟨_, h2⟩ := h1
      cases h2
      exact call_range_1 ⟨Keeps.mk' (ext_push _ _), _, _, _, _, rfl, hL.fresh, Heap.get?_push_size _ rfl⟩
    ·
      replace hp1 := paired_cons hp1
      obtain ⟨v', _, rfl, hv', hp2⟩ := hp1
      replace h1 := onI_last h1
      obtain ⟨j, rfl, h2⟩ := h1
      replace hv' := of_int hv'
      obtain ⟨t', rfl⟩ := hv'
      rcases ps with _ | ⟨z, ps⟩
      ·
        replace hp2 := paired_nil hp2
        subst hp2
        replace h2 := if_some h2
        obtain ⟨_, h3⟩ := h2
        cases h3
        exact call_range_2 ⟨Keeps.mk' (ext_push _ _), _, _, _, _, rfl, hL.fresh, Heap.get?_push_size _ rfl⟩
      ·
        replace hp2 := paired_cons hp2
        obtain ⟨v'', _, rfl, hv'', hp3⟩ := hp2
        replace h2 := onI_last h2
        obtain ⟨k, rfl, h3⟩ := h2
        replace hv'' := of_int hv''
        obtain ⟨t'', rfl⟩ := hv''
        rcases ps with _ | ⟨_, _⟩
        ·
          replace hp3 := paired_nil hp3
          subst hp3
          replace h3 := if_some h3
          obtain ⟨hc, h4⟩ := h3
          cases h4
          have hsm := hc.2.2.1
          simp only [smallI, decide_eq_true_eq] at hsm
          refine call_range_3 hc.2.2.2 ⟨Keeps.mk' (ext_push _ _), _, _, _, _, rfl, hL.fresh, Heap.get?_push_size _ rfl⟩ (.inl (PyProof.noPylong_of_log2 ?_))
          have := (Nat.log2_lt (n := Int.natAbs _) (by omega)).mpr hsm
          omega
        ·
          exact ns h3
  | max =>
    replace h := arg2_some h
    obtain ⟨p, q, rfl, h1⟩ := h
    replace hp := paired_cons hp
    obtain ⟨v, _, rfl, hv, hp⟩ := hp
    replace hp := paired_cons hp
    obtain ⟨v', _, rfl, hv', hp⟩ := hp
    replace hp := paired_nil hp
    subst hp
    replace h1 := onI_last h1
    obtain ⟨i, rfl, h2⟩ := h1
    replace h2 := onI_last h2
    obtain ⟨j, rfl, h3⟩ := h2
    cases h3
    replace hv := of_int hv
    obtain ⟨t, rfl⟩ := hv
    replace hv' := of_int hv'
    obtain ⟨t', rfl⟩ := hv'
    refine max_two_ints hA fun h' tk hk => ⟨Keeps.mk' hk, ?_⟩
    show Sc.of _ = some (Sc.int _)
    split <;> first | rfl | (split <;> first | rfl | omega)
  | min =>
    replace h := arg2_some h
    obtain ⟨p, q, rfl, h1⟩ := h
    replace hp := paired_cons hp
    obtain ⟨v, _, rfl, hv, hp⟩ := hp
    replace hp := paired_cons hp
    obtain ⟨v', _, rfl, hv', hp⟩ := hp
    replace hp := paired_nil hp
    subst hp
    replace h1 := onI_last h1
    obtain ⟨i, rfl, h2⟩ := h1
    replace h2 := onI_last h2
    obtain ⟨j, rfl, h3⟩ := h2
    cases h3
    replace hv := of_int hv
    obtain ⟨t, rfl⟩ := hv
    replace hv' := of_int hv'
    obtain ⟨t', rfl⟩ := hv'
    refine min_two_ints hA fun h' tk hk => ⟨Keeps.mk' hk, ?_⟩
    show Sc.of _ = some (Sc.int _)
    split <;> first | rfl | (split <;> first | rfl | omega)
  | int =>
    replace h := arg1_some h
    obtain ⟨p, rfl, h1⟩ := h
    replace hp := paired_cons hp
    obtain ⟨v, _, rfl, hv, hp⟩ := hp
    replace hp := paired_nil hp
    subst hp
    replace h1 := onI_some h1
    rcases h1 with ⟨i, rfl, h2⟩ | h1
    · cases h2
      replace hv := of_int hv
      obtain ⟨t, rfl⟩ := hv
      exact call_int_int ⟨Keeps.refl _, rfl⟩
    · replace h1 := onC_last h1
      obtain ⟨c, rfl, h2⟩ := h1
      replace h2 := one_last h2
      obtain ⟨b, hx, h3⟩ := h2
      cases t_eq hx; cases h3
      have := of_bool hv
      subst this
      exact call_int_bool ⟨Keeps.tk _ _, rfl⟩
  | abs =>
    replace h := arg1_some h
    obtain ⟨p, rfl, h1⟩ := h
    replace hp := paired_cons hp
    obtain ⟨v, _, rfl, hv, hp⟩ := hp
    replace hp := paired_nil hp
    subst hp
    replace h1 := onI_last h1
    obtain ⟨i, rfl, h2⟩ := h1
    cases h2
    replace hv := of_int hv
    obtain ⟨t, rfl⟩ := hv
    exact PyProof.Rows.call_abs_int fun u tk => ⟨Keeps.tk _ _, rfl⟩
  | sum =>
    replace h := arg1_some h
    obtain ⟨p, rfl, h1⟩ := h
    replace hp := paired_cons hp
    obtain ⟨v, _, rfl, hv, hp⟩ := hp
    replace hp := paired_nil hp
    subst hp
    replace h1 := one_last h1
    obtain ⟨l, hx, h2⟩ := h1
    cases l_eq hx
    replace h2 := map_s h2
    obtain ⟨ns, hns, rfl⟩ := h2
    obtain ⟨a, its, rfl, _, hl, hm, hlen⟩ := hv
    obtain ⟨xs, hx, rfl⟩ := intsOf_ok hns hm
    have hits : its = intItems xs.toArray := by
      apply Array.ext'
      rw [hx]
      simp [intItems]
    subst hits
    refine sum_intListG hA hl.isList fun h' tk t' hk => ⟨Keeps.mk' hk, ?_⟩
    show some (Sc.int _) = some (Sc.int _)
    rw [preSum_eq, List.take_of_length_le (by simp)]
  | dict => exact ns h
end
end Mine

end
section
open PySem PySem.W PyProof.Rows PySem.Calls
open PySem.SeqAt PySem.SeqRoads2
set_option Elab.async false
set_option autoImplicit false
namespace Mine

/-! ## names and the check that a term is the small syntax's -/
theorem any_some {α : Type} {o : Option α} {p : α → Bool} (h : o.any p = true) : Ex2 (fun a => o = some a) (fun a => p a = true) := by
  induction o with
  | some a => exact ⟨a, rfl, h⟩
  | none => exact ft h
theorem and_t {a b : Bool} (h : (a && b) = true) : a = true ∧ b = true := by
  induction a with
  | true => exact ⟨rfl, h⟩
  | false => exact ft h
noncomputable def natsEq : List Nat → List Nat → Bool
  | [], b => b.isEmpty
  | a :: r, b => match b with
    | [] => false
    | b :: q => Nat.beq a b && natsEq r q
theorem natsEq_eq {a : List Nat} : ∀ {b : List Nat}, natsEq a b = true → a = b := by
  induction a with
  | nil => exact fun h => (List.isEmpty_iff.mp h).symm
  | cons a r ih =>
    intro b h
    rcases b with _ | ⟨b, q⟩
    ·
      exact ft h
    ·
      obtain ⟨h1, h2⟩ := and_t h
      cases Nat.eq_of_beq_eq_true h1
      exact congrArg _ (ih h2)
theorem natsEq_rfl (l : List Nat) : natsEq l l = true := by
  induction l with
  | nil => rfl
  | cons a r ih => show (Nat.beq a a && natsEq r r) = true; rw [ih, Nat.beq_refl]; rfl
noncomputable def seq (a b : Str) : Bool := natsEq a.cps.toList b.cps.toList
theorem seq_eq {a b : Str} (h : seq a b = true) : a = b := by
  obtain ⟨a⟩ := a; obtain ⟨b⟩ := b
  have := natsEq_eq h
  simp only at this
  rw [Array.ext' this]

noncomputable def fnL : List String := ["needs_word", "encoded_span", "utf8_length", "utf8_octets", "need_charset", "has_sign", "octets_in", "best_charset", "quoted_code", "word_q_encoded",
  "group_codes", "part_encoded", "one_line", "in_lines", "encoded", "payload", "framed_word", "encoded_word", "sign_sizes", "chunk_ends",
  "words_of", "shorter_words", "encoded_words", "lower_code", "lower_text", "charset_names", "charset_name", "hex_worth", "quoted_at", "unquoted",
  "word_q_decoded", "worth_table", "group_octets", "decoded", "follower_span", "utf8_sign", "sign_at", "text_in", "strict_text", "guessed_text",
  "is_word_sign", "part_end", "word_parts", "is_apart", "plain_text", "word_at", "pieces_of", "all_white", "decoded_words", "_law_is_needy",
  "_law_row_begin", "_law_row_end", "_law_pen", "_law_draw", "_law_pick", "law"]
noncomputable def fnm (i : Nat) : Str := Str.ofString (fnL.getD i "")
noncomputable def glL : List String := ["SIGNS", "PAD", "LINE_END", "ASCII", "LATIN", "UTF8", "CHARSETS", "UNKNOWN_SIGN", "EQUALS", "BLANK", "UNDERLINE", "HEX", "WORD_SIGNS", "MOST_WORD", "WHITE", "OPENING", "CLOSING", "WAYS"]
noncomputable def glm (i : Nat) : Str := Str.ofString (glL.getD i "")

noncomputable def biName : Bi → Str
  | .len => "len" | .ord => "ord" | .chr => "chr" | .bytes => "bytes" | .range => "range" | .max => "max" | .min => "min" | .dict => "dict" | .int => "int" | .sum => "sum" | .abs => "abs"
noncomputable def meName : Me → Str
  | .join => "join" | .strip => "strip" | .split => "split" | .upper => "upper" | .count => "count" | .get => "get"

noncomputable abbrev Nms := List (Str × NameKind)
noncomputable def kd : Nms → Str → Option NameKind
  | [], _ => none
  | (y, k) :: r, x => if seq x y then some k else kd r x
theorem seq_beq (a b : Str) : (a == b) = seq a b := by
  cases h : seq a b with
  | true => cases seq_eq h; exact beq_self_eq_true a
  | false =>
    refine beq_eq_false_iff_ne.mpr fun e => ?_
    subst e
    exact ft (h.symm.trans (natsEq_rfl _))
theorem kd_eq (x : Str) (nm : Nms) : kd nm x = nm.lookup x := by
  induction nm with
  | nil => rfl
  | cons y r ih =>
    obtain ⟨y, k⟩ := y
    show (if seq x y then some k else kd r x) = _
    rw [List.lookup_cons, seq_beq, ih]
    cases seq x y <;> rfl
noncomputable def kdIs (nm : Nms) (x : Str) (k : NameKind) : Bool := (kd nm x).any fun j => j == k
theorem kdIs_eq {nm : Nms} {x : Str} {k : NameKind} (h : kdIs nm x k = true) : nm.lookup x = some k := by
  obtain ⟨j, h1, h2⟩ := any_some h
  rw [← kd_eq, h1, eq_of_beq h2]
noncomputable def nameOk (x : Str) : Bool := !seq x "__debug__" && !seq x "__classdict__"
theorem nameOk_d {x : Str} (h : nameOk x = true) : (x == ("__debug__" : Str)) = false ∧ (x == ("__classdict__" : Str)) = false := by
  simp only [nameOk, Bool.and_eq_true, Bool.not_eq_true'] at h
  rw [seq_beq, seq_beq]; exact h

/-! ## views: a thing, seen as one of its kinds -/
section
variable {X A B C D : Type}
noncomputable def O1 (K : A → X) (x : X) : Type := Option {t : A // x = K t}
noncomputable def O2 (K : A → B → X) (x : X) : Type := Option {t : A × B // x = K t.1 t.2}
noncomputable def O3 (K : A → B → C → X) (x : X) : Type := Option {t : A × B × C // x = K t.1 t.2.1 t.2.2}
noncomputable def O4 (K : A → B → C → D → X) (x : X) : Type := Option {t : A × B × C × D // x = K t.1 t.2.1 t.2.2.1 t.2.2.2}
section
variable {K : A → X} {x : X}
noncomputable def O1.mk (a : A) : O1 K (K a) := some ⟨a, rfl⟩
noncomputable def O1.no : O1 K x := none
noncomputable def el1 (o : O1 K x) (d : Bool) (f : A → Bool) : Bool := Option.elim o d fun t => f t.1
noncomputable def any1 (o : O1 K x) (f : A → Bool) : Bool := el1 o false f
inductive G1 (K : A → X) (f : A → Bool) : X → Prop
  | mk (a : A) (g : f a = true) : G1 K f (K a)
theorem any1_e {o : O1 K x} {f : A → Bool} (h : any1 o f = true) : G1 K f x := by
  induction o with
  | none => exact nomatch h
  | some t => exact t.2 ▸ ⟨_, h⟩
end
section
variable {K : A → B → X} {x : X}
noncomputable def O2.mk (a : A) (b : B) : O2 K (K a b) := some ⟨(a, b), rfl⟩
noncomputable def O2.no : O2 K x := none
noncomputable def el2 (o : O2 K x) (d : Bool) (f : A → B → Bool) : Bool := Option.elim o d fun t => f t.1.1 t.1.2
noncomputable def any2 (o : O2 K x) (f : A → B → Bool) : Bool := el2 o false f
inductive G2 (K : A → B → X) (f : A → B → Bool) : X → Prop
  | mk (a : A) (b : B) (g : f a b = true) : G2 K f (K a b)
theorem any2_e {o : O2 K x} {f : A → B → Bool} (h : any2 o f = true) : G2 K f x := by
  induction o with
  | none => exact nomatch h
  | some t => exact t.2 ▸ ⟨_, _, h⟩
end
section
variable {K : A → B → C → X} {x : X}
noncomputable def O3.mk (a : A) (b : B) (c : C) : O3 K (K a b c) := some ⟨(a, b, c), rfl⟩
noncomputable def O3.no : O3 K x := none
noncomputable def el3 (o : O3 K x) (d : Bool) (f : A → B → C → Bool) : Bool := Option.elim o d fun t => f t.1.1 t.1.2.1 t.1.2.2
noncomputable def any3 (o : O3 K x) (f : A → B → C → Bool) : Bool := el3 o false f
inductive G3 (K : A → B → C → X) (f : A → B → C → Bool) : X → Prop
  | mk (a : A) (b : B) (c : C) (g : f a b c = true) : G3 K f (K a b c)
theorem any3_e {o : O3 K x} {f : A → B → C → Bool} (h : any3 o f = true) : G3 K f x := by
  induction o with
  | none => exact nomatch h
  | some t => exact t.2 ▸ ⟨_, _, _, h⟩
end
section
variable {K : A → B → C → D → X} {x : X}
noncomputable def O4.mk (a : A) (b : B) (c : C) (d : D) : O4 K (K a b c d) := some ⟨(a, b, c, d), rfl⟩
noncomputable def O4.no : O4 K x := none
noncomputable def el4 (o : O4 K x) (d : Bool) (f : A → B → C → D → Bool) : Bool := Option.elim o d fun t => f t.1.1 t.1.2.1 t.1.2.2.1 t.1.2.2.2
noncomputable def any4 (o : O4 K x) (f : A → B → C → D → Bool) : Bool := el4 o false f
inductive G4 (K : A → B → C → D → X) (f : A → B → C → D → Bool) : X → Prop
  | mk (a : A) (b : B) (c : C) (d : D) (g : f a b c d = true) : G4 K f (K a b c d)
theorem any4_e {o : O4 K x} {f : A → B → C → D → Bool} (h : any4 o f = true) : G4 K f x := by
  induction o with
  | none => exact nomatch h
  | some t => exact t.2 ▸ ⟨_, _, _, _, h⟩
end
end
/-- a list of one, of two -/
noncomputable abbrev kOne {α : Type} (a : α) : List α := [a]
noncomputable abbrev kTwo {α : Type} (a b : α) : List α := [a, b]
noncomputable def oneL {α : Type} : (l : List α) → O1 kOne l
  | [] => .no
  | a :: r => match r with
    | [] => O1.mk (K := kOne) a
    | _ :: _ => .no
noncomputable def twoL {α : Type} : (l : List α) → O2 kTwo l
  | [] => .no
  | a :: r => match r with
    | [] => .no
    | b :: r => match r with
      | [] => O2.mk (K := kTwo) a b
      | _ :: _ => .no

noncomputable def cBoo (x : Const) : O1 Const.bool x := if h : x.ctorIdx = 1 then @Const.bool.elim (O1 Const.bool) x h fun b => O1.mk (K := Const.bool) b else .no
noncomputable def cInt (x : Const) : O1 Const.int x := if h : x.ctorIdx = 2 then @Const.int.elim (O1 Const.int) x h fun b => O1.mk (K := Const.int) b else .no
noncomputable def cStr (x : Const) : O1 Const.str x := if h : x.ctorIdx = 5 then @Const.str.elim (O1 Const.str) x h fun b => O1.mk (K := Const.str) b else .no
noncomputable def cByt (x : Const) : O1 Const.bytes x := if h : x.ctorIdx = 6 then @Const.bytes.elim (O1 Const.bytes) x h fun b => O1.mk (K := Const.bytes) b else .no
noncomputable def litIs (l : Const) : Sc → Bool
  | .none => Nat.beq l.ctorIdx 0
  | .bool c => any1 (cBoo l) fun b => b == c
  | .int j => any1 (cInt l) fun i => i == j
  | .str x => any1 (cStr l) fun s => natsEq s.cps.toList x && Nat.ble x.length 1000
  | .bytes x => any1 (cByt l) fun b => natsEq (b.map UInt8.toNat) x && Nat.ble x.length 1000
noncomputable def opIs (o : BOp) (p : Operator) : Bool := decide (p = bopOf o)
noncomputable def copIs (o : COp) (p : CmpOp) : Bool := decide (p = copOf o)
theorem opIs_eq {o : BOp} {p : Operator} (h : opIs o p = true) : p = bopOf o := of_decide_eq_true h
theorem copIs_eq {o : COp} {p : CmpOp} (h : copIs o p = true) : p = copOf o := of_decide_eq_true h

noncomputable def notSet (e : PySem.Expr) : Bool := !Nat.beq e.ctorIdx 7
noncomputable def noStar : List PySem.Expr → Bool
  | [] => true
  | e :: r => !Nat.beq e.ctorIdx 22 && noStar r

noncomputable abbrev Sls := List (Option Str)
noncomputable def slIs (sl : Sls) (i : Nat) (x : Str) : Bool := (sl[i]?).any fun o => o.any fun y => seq x y
theorem slIs_eq {sl : Sls} {i : Nat} {x : Str} (h : slIs sl i x = true) : sl[i]? = some (some x) := by
  obtain ⟨o, h1, h2⟩ := any_some h
  obtain ⟨y, rfl, h3⟩ := any_some h2
  rw [h1, seq_eq h3]
/-- the slots that a comprehension's own block sees -/
noncomputable def innerSl (sl : Sls) (nm2 : Nms) (c : Nat) (x : Str) : Sls := (sl.map fun o => match o with
  | some y => if kdIs nm2 y .free then some y else none
  | none => none).set c (some x)
inductive A3 (a b c : Prop) : Prop where
  | mk (h1 : a) (h2 : b) (h3 : c) : A3 a b c
theorem and_t3 {a b c : Bool} (h : (a && (b && c)) = true) : A3 (a = true) (b = true) (c = true) := ⟨(and_t h).1, (and_t (and_t h).2).1, (and_t (and_t h).2).2⟩
inductive A4 (a b c d : Prop) : Prop where
  | mk (h1 : a) (h2 : b) (h3 : c) (h4 : d) : A4 a b c d
theorem and_t4 {a b c d : Bool} (h : (a && (b && (c && d))) = true) : A4 (a = true) (b = true) (c = true) (d = true) := ⟨(and_t h).1, (and_t (and_t h).2).1, (and_t (and_t (and_t h).2).2).1, (and_t (and_t (and_t h).2).2).2⟩
inductive A5 (a b c d e : Prop) : Prop where
  | mk (h1 : a) (h2 : b) (h3 : c) (h4 : d) (h5 : e) : A5 a b c d e
theorem and_t5 {a b c d e : Bool} (h : (a && (b && (c && (d && e)))) = true) : A5 (a = true) (b = true) (c = true) (d = true) (e = true) := ⟨(and_t h).1, (and_t (and_t h).2).1, (and_t (and_t (and_t h).2).2).1, (and_t (and_t (and_t (and_t h).2).2).2).1, (and_t (and_t (and_t (and_t h).2).2).2).2⟩
inductive A6 (a b c d e f : Prop) : Prop where
  | mk (h1 : a) (h2 : b) (h3 : c) (h4 : d) (h5 : e) (h6 : f) : A6 a b c d e f
theorem and_t6 {a b c d e f : Bool} (h : (a && (b && (c && (d && (e && f))))) = true) : A6 (a = true) (b = true) (c = true) (d = true) (e = true) (f = true) := ⟨(and_t h).1, (and_t (and_t h).2).1, (and_t (and_t (and_t h).2).2).1, (and_t (and_t (and_t (and_t h).2).2).2).1, (and_t (and_t (and_t (and_t (and_t h).2).2).2).2).1, (and_t (and_t (and_t (and_t (and_t h).2).2).2).2).2⟩
inductive A7 (a b c d e f g : Prop) : Prop where
  | mk (h1 : a) (h2 : b) (h3 : c) (h4 : d) (h5 : e) (h6 : f) (h7 : g) : A7 a b c d e f g
theorem and_t7 {a b c d e f g : Bool} (h : (a && (b && (c && (d && (e && (f && g)))))) = true) : A7 (a = true) (b = true) (c = true) (d = true) (e = true) (f = true) (g = true) := ⟨(and_t h).1, (and_t (and_t h).2).1, (and_t (and_t (and_t h).2).2).1, (and_t (and_t (and_t (and_t h).2).2).2).1, (and_t (and_t (and_t (and_t (and_t h).2).2).2).2).1, (and_t (and_t (and_t (and_t (and_t (and_t h).2).2).2).2).2).1, (and_t (and_t (and_t (and_t (and_t (and_t h).2).2).2).2).2).2⟩
theorem not_t {a : Bool} (h : (!a) = true) : a = false := by
  induction a with
  | false => rfl
  | true => exact ft h
theorem isNone_t {α : Type} {o : Option α} (h : o.isNone = true) : o = none := by
  induction o with
  | none => rfl
  | some _ => exact ft h
noncomputable def duo {α : Type} : List α → Option (α × α)
  | [] => none
  | a :: r => (sing r).map fun b => (a, b)
theorem duo_eq {α : Type} {l : List α} {x : α × α} (h : duo l = some x) : l = [x.1, x.2] := by
  rcases l with _ | ⟨a, r⟩
  ·
    exact ns h
  ·
    replace h := map_s h
    obtain ⟨b, hb, rfl⟩ := h
    rw [sing_eq hb]
noncomputable def xConst (x : PySem.Expr) : O3 PySem.Expr.Constant x := if h : x.ctorIdx = 19 then @PySem.Expr.Constant.elim (O3 PySem.Expr.Constant) x h fun t k p => O3.mk (K := PySem.Expr.Constant) t k p else .no
noncomputable def xName (x : PySem.Expr) : O2 PySem.Expr.Name x := if h : x.ctorIdx = 23 then @PySem.Expr.Name.elim (O2 PySem.Expr.Name) x h fun n p => O2.mk (K := PySem.Expr.Name) n p else .no
noncomputable def xBin (x : PySem.Expr) : O4 PySem.Expr.BinOp x := if h : x.ctorIdx = 2 then @PySem.Expr.BinOp.elim (O4 PySem.Expr.BinOp) x h fun a o b p => O4.mk (K := PySem.Expr.BinOp) a o b p else .no
noncomputable def xUn (x : PySem.Expr) : O3 PySem.Expr.UnaryOp x := if h : x.ctorIdx = 3 then @PySem.Expr.UnaryOp.elim (O3 PySem.Expr.UnaryOp) x h fun o a p => O3.mk (K := PySem.Expr.UnaryOp) o a p else .no
noncomputable def xBool (x : PySem.Expr) : O3 PySem.Expr.BoolOp x := if h : x.ctorIdx = 0 then @PySem.Expr.BoolOp.elim (O3 PySem.Expr.BoolOp) x h fun o v p => O3.mk (K := PySem.Expr.BoolOp) o v p else .no
noncomputable def xCmp (x : PySem.Expr) : O4 PySem.Expr.Compare x := if h : x.ctorIdx = 15 then @PySem.Expr.Compare.elim (O4 PySem.Expr.Compare) x h fun a o b p => O4.mk (K := PySem.Expr.Compare) a o b p else .no
noncomputable def xIf (x : PySem.Expr) : O4 PySem.Expr.IfExp x := if h : x.ctorIdx = 5 then @PySem.Expr.IfExp.elim (O4 PySem.Expr.IfExp) x h fun a b c p => O4.mk (K := PySem.Expr.IfExp) a b c p else .no
noncomputable abbrev kCall (f : PySem.Expr) (as : List PySem.Expr) (p : Pos) : PySem.Expr := .Call f as [] p
noncomputable def xCall (x : PySem.Expr) : O3 kCall x := if h : x.ctorIdx = 16 then @PySem.Expr.Call.elim (O3 kCall) x h fun f as q p => match q with | [] => O3.mk (K := kCall) f as p | _ :: _ => .no else .no
noncomputable def xAttr (x : PySem.Expr) : O3 PySem.Expr.Attribute x := if h : x.ctorIdx = 20 then @PySem.Expr.Attribute.elim (O3 PySem.Expr.Attribute) x h fun o n p => O3.mk (K := PySem.Expr.Attribute) o n p else .no
noncomputable def xSub (x : PySem.Expr) : O3 PySem.Expr.Subscript x := if h : x.ctorIdx = 21 then @PySem.Expr.Subscript.elim (O3 PySem.Expr.Subscript) x h fun o i p => O3.mk (K := PySem.Expr.Subscript) o i p else .no
noncomputable abbrev kSlice (a b : Option PySem.Expr) (p : Pos) : PySem.Expr := .Slice a b none p
noncomputable def xSlice (x : PySem.Expr) : O3 kSlice x := if h : x.ctorIdx = 26 then @PySem.Expr.Slice.elim (O3 kSlice) x h fun a b q p => match q with | none => O3.mk (K := kSlice) a b p | some _ => .no else .no
noncomputable def xTup (x : PySem.Expr) : O3 PySem.Expr.Tuple x := if h : x.ctorIdx = 25 then @PySem.Expr.Tuple.elim (O3 PySem.Expr.Tuple) x h fun v k p => O3.mk (K := PySem.Expr.Tuple) v k p else .no
noncomputable def xList (x : PySem.Expr) : O2 PySem.Expr.List x := if h : x.ctorIdx = 24 then @PySem.Expr.List.elim (O2 PySem.Expr.List) x h fun v p => O2.mk (K := PySem.Expr.List) v p else .no
noncomputable def xDict (x : PySem.Expr) : O3 PySem.Expr.Dict x := if h : x.ctorIdx = 6 then @PySem.Expr.Dict.elim (O3 PySem.Expr.Dict) x h fun a b p => O3.mk (K := PySem.Expr.Dict) a b p else .no
noncomputable def xLC (x : PySem.Expr) : O4 PySem.Expr.ListComp x := if h : x.ctorIdx = 8 then @PySem.Expr.ListComp.elim (O4 PySem.Expr.ListComp) x h fun a b c p => O4.mk (K := PySem.Expr.ListComp) a b c p else .no
/-- a comprehension of one loop -/
noncomputable def anyC (x : PySem.Expr) (f : PySem.Expr → Str → PySem.Expr → List PySem.Expr → Scope → Bool) : Bool :=
  any4 (xLC x) fun elt cs sc _ => any1 (oneL cs) fun c => any2 (xName c.target) fun n _ => decide (c.is_async = 0) && f elt n c.iter c.ifs sc
inductive GC (f : PySem.Expr → Str → PySem.Expr → List PySem.Expr → Scope → Bool) : PySem.Expr → Prop
  | mk (elt : PySem.Expr) (n : Str) (px : Pos) (it : PySem.Expr) (ifs : List PySem.Expr) (scope : Scope) (p : Pos) (g : f elt n it ifs scope = true) : GC f (.ListComp elt [⟨.Name n px, it, ifs, 0⟩] scope p)
theorem anyC_e {x : PySem.Expr} {f : PySem.Expr → Str → PySem.Expr → List PySem.Expr → Scope → Bool} (h : anyC x f = true) : GC f x := by
  replace h := any4_e h
  cases h with | mk elt cs sc p g =>
  replace g := any1_e g
  cases g with | mk c g =>
  obtain ⟨t, it, ifs, k⟩ := c
  replace g := any2_e g
  cases g with | mk n px g =>
  obtain ⟨g1, g2⟩ := and_t g
  cases of_decide_eq_true g1
  exact ⟨_, _, _, _, _, _, _, g2⟩
noncomputable def intLit (x : PySem.Expr) (j : Int) : Bool := any3 (xConst x) fun c _ _ => any1 (cInt c) fun i => decide (i = j)
inductive GInt (j : Int) : PySem.Expr → Prop
  | mk (k : Nat) (p : Pos) : GInt j (.Constant (.int j) k p)
theorem intLit_eq {x : PySem.Expr} {j : Int} (h : intLit x j = true) : GInt j x := by
  replace h := any3_e h
  cases h with | mk c k p g =>
  replace g := any1_e g
  cases g with | mk i g =>
  cases of_decide_eq_true g
  exact ⟨k, p⟩
noncomputable def compScopeOk (nm nm2 : Nms) (x : Str) (k : ScopeKind) : Bool :=
  (k == .function) && nm2.all (fun y => y.2 != .cell) && nm2.all (fun y => y.2 != .local || kdIs nm2 y.1 .local) && kdIs nm2 x .local &&
    nm2.all (fun y => y.2 != .free || kdIs nm y.1 .cell)

noncomputable def notSuper (o : PySem.Expr) : Bool := any3 (xConst o) (fun _ _ _ => true) || (any2 (xName o) (fun _ _ => true) || (any3 (xSub o) (fun _ _ _ => true) || any3 (xCall o) fun f _ _ => any2 (xName f) fun n _ => !seq n "super"))
theorem or_t {a b : Bool} (h : (a || b) = true) : a = true ∨ b = true := by
  induction a with
  | true => exact .inl rfl
  | false => exact .inr h
theorem some_t {α : Type} {o : Option α} (h : o.isSome = true) : ∃ a, o = some a := by
  induction o with
  | some a => exact ⟨a, rfl⟩
  | none => exact ft h
mutual
noncomputable def isE (nm : Nms) (sl : Sls) : E → PySem.Expr → Bool
  | .k c, x => any3 (xConst x) fun t _ _ => litIs t c
  | .var i, x => any2 (xName x) fun t _ => nameOk t && (slIs sl i t && (kdIs nm t .local || kdIs nm t .cell || kdIs nm t .free))
  | .glob g, x => any2 (xName x) fun t _ => nameOk t && (seq t (glm g) && kdIs nm t .globalImplicit)
  | .bin o l r, x => any4 (xBin x) fun a q b _ => opIs o q && (isE nm sl l a && isE nm sl r b)
  | .neg e, x => any3 (xUn x) fun q a _ => decide (q = .USub) && isE nm sl e a
  | .notE e, x => any3 (xUn x) fun q a _ => decide (q = .Not) && isE nm sl e a
  | .andE es, x => any3 (xBool x) fun q a _ => decide (q = .And) && isEs nm sl es a
  | .orE es, x => any3 (xBool x) fun q a _ => decide (q = .Or) && isEs nm sl es a
  | .cmp o l r, x => any4 (xCmp x) fun a os bs _ => any1 (oneL os) fun q => any1 (oneL bs) fun b => copIs o q && (notSet b && (isE nm sl l a && isE nm sl r b))
  | .cmp2 o1 o2 a b c, x => any4 (xCmp x) fun u os bs _ => any2 (twoL os) fun q1 q2 => any2 (twoL bs) fun y z => copIs o1 q1 && (copIs o2 q2 && (notSet z && (isE nm sl a u && (isE nm sl b y && isE nm sl c z))))
  | .ite t a b, x => any4 (xIf x) fun u y z _ => isE nm sl t u && (isE nm sl a y && isE nm sl b z)
  | .call f as, x => any3 (xCall x) fun u xs _ => any2 (xName u) fun n _ => nameOk n && (seq n (fnm f) && (kdIs nm n .globalImplicit && (isEs nm sl as xs && noStar xs)))
  | .bi b as, x => any3 (xCall x) fun u xs _ => any2 (xName u) fun n _ => nameOk n && (seq n (biName b) && (kdIs nm n .globalImplicit && (isEs nm sl as xs && (noStar xs && !xs.isEmpty))))
  | .meth m o as, x => any3 (xCall x) fun u xs p => any3 (xAttr u) fun ob n ap => seq n (meName m) && ((ap.endLine == p.line) && (notSuper ob && (isE nm sl o ob && (isEs nm sl as xs && (noStar xs && Nat.ble xs.length 10)))))
  | .idx o i, x => any3 (xSub x) fun a b _ => noSlice b && (isE nm sl o a && isE nm sl i b)
  | .sl0 o b, x => any3 (xSub x) fun y u _ => any3 (xSlice u) fun lo hi _ => lo.isNone && hi.any fun hi => isE nm sl o y && isE nm sl b hi
  | .sl1 o a, x => any3 (xSub x) fun y u _ => any3 (xSlice u) fun lo hi _ => hi.isNone && lo.any fun lo => isE nm sl o y && isE nm sl a lo
  | .sl2 o a b, x => any3 (xSub x) fun y u _ => any3 (xSlice u) fun lo hi _ => lo.any fun lo => hi.any fun hi => isE nm sl o y && (isE nm sl a lo && isE nm sl b hi)
  | .tup es, x => any3 (xTup x) fun t _ _ => isEs nm sl es t && noStar t
  | .lst es, x => any2 (xList x) fun t _ => isEs nm sl es t && noStar t
  | .comp c elt it cond, x => anyC x fun y n u ifs sc => compScopeOk nm sc.names n sc.kind && (notSet u && (isE nm sl it u &&
      (Nat.blt c sl.length && (isE sc.names (innerSl sl sc.names c n) elt y && isEs sc.names (innerSl sl sc.names c n) cond ifs))))
  | .dget ks i d, x => any3 (xCall x) fun u xs p => any3 (xAttr u) fun ob n ap => any3 (xDict ob) fun kxs vxs _ => any2 (twoL xs) fun a1 a2 => any1 (oneL ks) fun k => any1 (oneL kxs) fun kx => any1 (oneL vxs) fun vx => kx.any fun kx =>
      seq n "get" && ((ap.endLine == p.line) && (intLit kx k.1 && (intLit vx k.2 && (isE nm sl i a1 && (isE nm sl d a2 && noStar [a1, a2])))))
noncomputable def isEs (nm : Nms) (sl : Sls) : Es → List PySem.Expr → Bool
  | .nil, [] => true
  | .cons e r, x :: xs => isE nm sl e x && isEs nm sl r xs
  | _, _ => false
end
end Mine

end
section
open PySem PySem.W PyProof.Rows PySem.Calls
open PySem.SeqAt PySem.SeqRoads2
set_option Elab.async false
set_option autoImplicit false
namespace Mine

structure Base (hB : Heap) (K : Frag) : Prop where
  kin : K.In hB
  g : ∃ mg, hB.Ns mainGlobals mg
  b : ∃ mb, hB.Ns builtinsNs mb ∧ ∀ x : Str, x ≠ "__name__" → mb x = bootBuiltins x
  nolimit : hB.NoLimit

noncomputable def Room (n : Nat) (A : Around) : Prop := A.handled = none ∧ A.depth + n < recursionLimit ∧ A.units + 8 * n + 8 < cLine

inductive Loads (env : Env) (h : Heap) (x : Str) (v : Value) : Prop where
  | loc (m : Str → Option Value) : env.kindOf x = some .local → h.Ns env.locals m → m x = some v → Loads env h x v
  | cell (c : Addr) : (env.kindOf x = some .cell ∨ env.kindOf x = some .free) → env.cells.lookup x = some c → h.IsCell c (some v) → Loads env h x v
theorem Loads.ext {env : Env} {h h' : Heap} {x : Str} {v : Value} (l : Loads env h x v) (e : Ext h h') : Loads env h' x v := by
  induction l with
  | loc m k n q => exact .loc m k (n.keeps e) q
  | cell c k n q => exact .cell c k n (q.keeps e)

section
variable (prog : Program) (w : World)
noncomputable def SlotOk (Wo W : List Addr) (env : Env) (h : Heap) (x : Str) : Slot → Prop
  | .un => True
  | .val p => ∃ v, Loads env h x v ∧ Rep prog w (Wo ++ W) h p v
  | .own p => ∃ a, Loads env h x (.ref a) ∧ a ∈ W ∧ Rep prog w Wo h p (.ref a)

structure Cx (hB : Heap) (nm : Nms) (sl : Sls) (ρ : List Slot) (Wo W : List Addr) (env : Env) (h : Heap) : Prop where
  base : Ext hB h
  live : Live (Wo ++ W) h
  new : ∀ a ∈ Wo ++ W, hB.get? a = none
  fn : env.scope.kind = .function
  gl : env.globals = mainGlobals
  bl : env.builtins = builtinsNs
  kind : ∀ x k, nm.lookup x = some k → k ≠ .free → env.kindOf x = some k
  kindF : ∀ x, nm.lookup x = some .free → env.kindOf x = some .free ∨ env.kindOf x = some .cell
  cells : ∀ x, nm.lookup x = some .cell → ∃ c, env.cells.lookup x = some c
  len : sl.length = ρ.length
  vars : ∀ (i : Nat) (x : Str) (sv : Slot), sl[i]? = some (some x) → ρ[i]? = some sv → SlotOk prog w Wo W env h x sv

theorem Cx.ext {hB : Heap} {nm : Nms} {sl : Sls} {ρ : List Slot} {Wo W : List Addr} {env : Env} {h h' : Heap} (C : Cx prog w hB nm sl ρ Wo W env h) (e : Ext h h') : Cx prog w hB nm sl ρ Wo W env h' where
  base := C.base.trans e
  live := C.live.ext e
  new := C.new
  fn := C.fn
  gl := C.gl
  bl := C.bl
  kind := C.kind
  kindF := C.kindF
  cells := C.cells
  len := C.len
  vars := fun i x sv h1 h2 => by
    have := C.vars i x sv h1 h2
    induction sv with
    | un => trivial
    | val p => obtain ⟨v, l, r⟩ := this; exact ⟨v, l.ext e, r.ext e⟩
    | own p => obtain ⟨a, l, ha, r⟩ := this; exact ⟨a, l.ext e, ha, r.ext e⟩

noncomputable def FnOk (hB : Heap) (K : Frag) (n f : Nat) (args : List PV) (r : PV) : Prop :=
  ∀ (A : Around) (s : Shared) (V : List Addr) (vs : List Value) (a : Addr), Room n A → Ext hB s.heap → Live V s.heap → (∀ a ∈ V, hB.get? a = none) →
    nsIn K mainGlobals (fnm f) = some (some (.ref a)) → Paired (Rep prog w V s.heap) args vs → Mine.Gives (model prog w) A (call (.ref a) vs) s (fun h x => Rep prog w V h r x)

noncomputable def FnsOk (hB : Heap) (K : Frag) (n : Nat) (F : Fns) : Prop :=
  ∀ f args r, F f args = some r → (∃ a o fd, nsIn K mainGlobals (fnm f) = some (some (.ref a)) ∧ K.lookup a = some o ∧ o.data = .func fd) ∧ FnOk prog w hB K n f args r
noncomputable def GlsOk (hB : Heap) (K : Frag) (G : Gls) : Prop :=
  ∀ g p, G g = some p → ∃ v, nsIn K mainGlobals (glm g) = some (some v) ∧ ∀ V h, Ext hB h → (∀ a ∈ V, hB.get? a = none) → Rep prog w V h p v
noncomputable def BisOk (K : Frag) : Prop := ∀ b : Bi, b ≠ .dict → nsIn K mainGlobals (biName b) = some none
end

theorem Cx.go {prog : Program} {w : World} {hB : Heap} {nm : Nms} {sl : Sls} {ρ : List Slot} {Wo W : List Addr} {env : Env} {h h' : Heap} (C : Cx prog w hB nm sl ρ Wo W env h) (e : Ext h h') : Cx prog w hB nm sl ρ Wo W env h' := Cx.ext prog w C e

theorem len_lim {n : Nat} (h : Nat.ble n 1000 = true) : n ≤ lim := by
  rw [lim_val]; exact Nat.le_trans (Nat.le_of_ble_eq_true h) (by decide)
theorem litIs_ok {M : Model} {A : Around} {env : Env} {l : Const} {c : Sc} {k : Nat} {pos : Pos} {s : Shared} {E : Value → Shared → Prop} (h : litIs l c = true) :
    wpAny M A (eval (.Constant l k pos) env) (fun v s' => Keeps s s' ∧ Sc.of v = some c) E s := by
  induction c with
  | none =>
    have h : l = .none := by cases l <;> first | rfl | exact ft h
    subst h
    exact wpAny_pure ⟨Keeps.refl _, rfl⟩
  | bool c =>
    replace h := any1_e h
    induction h with
    | mk b g => cases eq_of_beq g; exact wpAny_pure ⟨Keeps.refl _, rfl⟩
  | int j =>
    replace h := any1_e h
    induction h with
    | mk b g => cases eq_of_beq g; exact wpAny_Constant_int ⟨Keeps.tk _ _, rfl⟩
  | str l =>
    replace h := any1_e h
    induction h with
    | mk x g =>
      obtain ⟨e, g⟩ := and_t g
      cases natsEq_eq e
      exact Calls.Constant_str ⟨Keeps.tk _ _, of_str_mk' _ (Array.length_toList ▸ len_lim g)⟩
  | bytes l =>
    replace h := any1_e h
    induction h with
    | mk x g =>
      obtain ⟨e, g⟩ := and_t g
      cases natsEq_eq e
      exact PySem.W.Constant_bytes ⟨Keeps.tk _ _, of_bytes_mk (b := x.toArray) s.toks (by have := len_lim g; rw [List.length_map] at this; exact this)⟩

theorem wp_cmp2 {M : Model} {A : Around} {env : Env} {a b c : PySem.Expr} {o1 o2 : CmpOp} {pos : Pos} {s : Shared} {Q : Bool → Shared → Prop} {E : Value → Shared → Prop} (hm : notSet c = true)
    (h : wpAny M A (eval a env) (fun x s₁ => wpAny M A (eval b env) (fun y s₂ => wpAny M A (compareOp o1 x y) (fun v s₃ => ∃ t, v = .bool t ∧
      (if t = true then wpAny M A (eval c env) (fun z s₄ => wpAny M A (compareOp o2 y z) (fun r s₅ => ∃ q, r = .bool q ∧ Q q s₅) E s₄) E s₃ else Q false s₃)) E s₂) E s₁) E s) :
    wpAny M A (eval (.Compare a [o1, o2] [b, c] pos) env) (fun v s' => ∃ q, v = .bool q ∧ Q q s') E s ∧ ∀ whole, wpAny M A (isTrue (.Compare a [o1, o2] [b, c] pos) env whole) Q E s := by
  have hb : markedBehindIn o2 c (eval c env) = eval c env := markedBehindIn_of_false (by cases c <;> first | rfl | exact ft hm)
  have e1 : eval (.Compare a [o1, o2] [b, c] pos) env = (eval a env >>= fun x => compareChain pos x [o1, o2] [eval b env, markedBehindIn o2 c (eval c env)]) := rfl
  have e2 : ∀ whole, isTrue (.Compare a [o1, o2] [b, c] pos) env whole = (eval a env >>= fun x => testChain pos x [o1, o2] [eval b env, markedBehindIn o2 c (eval c env)]) := fun _ => rfl
  rw [hb] at e1
  constructor
  · rw [e1]
    refine wpAny_bind (wpAny_mono h (fun x s₁ h₁ => ?_) fun _ _ e => e)
    show wpAny M A (holding [x] (eval b env) >>= fun rv => standAt pos >>= fun _ => holding [x, rv] (compareOp o1 x rv) >>= fun c' => release [x, rv] [c'] >>= fun _ =>
      holding [c', rv] (truthy c') >>= fun t => if t = true then compareChain pos rv [o2] [eval c env] else pure c') _ E s₁
    refine wpAny_bind (wpAny_holding (wpAny_mono h₁ (fun y s₂ h₂ => ?_) fun _ _ e => e))
    refine wpAny_bind (wpAny_standAt (wpAny_bind (wpAny_holding (wpAny_mono h₂ (fun v s₃ h₃ => ?_) fun _ _ e => e))))
    obtain ⟨t, rfl, h₃⟩ := h₃
    refine wpAny_bind (wpAny_release (wpAny_bind (wpAny_holding (wpAny_truthy_bool ?_))))
    induction t with
    | false => exact wpAny_pure ⟨false, rfl, h₃⟩
    | true =>
      show wpAny M A (holding [y] (eval c env) >>= fun rv => standAt pos >>= fun _ => operate [y, rv] (compareOp o2 y rv)) _ E s₃
      refine wpAny_bind (wpAny_holding (wpAny_mono h₃ (fun z s₄ h₄ => wpAny_bind (wpAny_standAt (wpAny_operating h₄))) fun _ _ e => e))
  · intro whole
    rw [e2, hb]
    refine wpAny_bind (wpAny_mono h (fun x s₁ h₁ => ?_) fun _ _ e => e)
    show wpAny M A (holding [x] (eval b env) >>= fun rv => standAt pos >>= fun _ => holding [x, rv] (compareOp o1 x rv) >>= fun c' => release [x, rv] [c'] >>= fun _ =>
      holding [c', rv] (truthy c') >>= fun t => if t = true then testChain pos rv [o2] [eval c env] else pure false) _ E s₁
    refine wpAny_bind (wpAny_holding (wpAny_mono h₁ (fun y s₂ h₂ => ?_) fun _ _ e => e))
    refine wpAny_bind (wpAny_standAt (wpAny_bind (wpAny_holding (wpAny_mono h₂ (fun v s₃ h₃ => ?_) fun _ _ e => e))))
    obtain ⟨t, rfl, h₃⟩ := h₃
    refine wpAny_bind (wpAny_release (wpAny_bind (wpAny_holding (wpAny_truthy_bool ?_))))
    induction t with
    | false => exact wpAny_pure h₃
    | true =>
      show wpAny M A (holding [y] (eval c env) >>= fun rv => standAt pos >>= fun _ => operate [y, rv] (compareOp o2 y rv) >>= fun c' => holding [c'] (truthy c')) _ E s₃
      refine wpAny_bind (wpAny_holding (wpAny_mono h₃ (fun z s₄ h₄ => wpAny_bind (wpAny_standAt (wpAny_bind (wpAny_operating (wpAny_mono h₄ (fun r s₅ h₅ => ?_) fun _ _ e => e))))) fun _ _ e => e))
      obtain ⟨q, rfl, hq⟩ := h₅
      exact wpAny_holding (wpAny_truthy_bool hq)
end Mine

end
section
open PySem PySem.W PyProof.Rows PySem.Calls
open PySem.SeqAt PySem.SeqRoads2
set_option Elab.async false
set_option autoImplicit false
namespace Mine

section
variable {prog : Program} {w : World} {A : Around} {s : Shared}

/-- an iterator over the items xs -/
noncomputable def IterOf (prog : Program) (w : World) (V : List Addr) (xs : List Sc) (h : Heap) (it : Value) (h' : Heap) : Prop :=
  ∃ (I : Addr) (fp : List Addr) (P : Nat → Value → Prop) (St : Nat → Heap → Prop), it = .ref I ∧ (∀ A' : Around, A'.handled = none → Walks prog w A' I fp [I] xs.length P St) ∧ St 0 h' ∧
    (∀ b ∈ fp, b < h'.objs.size) ∧ h.get? I = none ∧ (∀ j h₁, St j h₁ → ∃ o, h₁.get? I = some o) ∧ (∀ b ∈ fp, b = I ∨ (b ∉ V ∧ ∃ o, h.get? b = some o)) ∧ ∀ i v, P i v → ∃ c, xs[i]? = some c ∧ Sc.of v = some c

theorem fresh_none (h : Heap) : h.get? h.objs.size = none := by
  cases e : h.get? h.objs.size with
  | none => rfl
  | some o => exact absurd (Heap.lt_size e) (Nat.lt_irrefl _)

theorem walks_bounded {I : Addr} {fp wr : List Addr} {n : Nat} {P : Nat → Value → Prop} {St : Nat → Heap → Prop} (W : Walks prog w A I fp wr n P St) : Walks prog w A I fp wr n (fun i v => i < n ∧ P i v) St where
  sub := W.sub
  frame := W.frame
  item := fun i s Q E hi st hQ => W.item i s Q E hi st fun v h' tk hP => hQ v h' tk ⟨hi, hP⟩
  done := W.done
  self := W.self

theorem rangeSize_small {a b c : Int} (h1 : a.natAbs < 2 ^ 40) (h2 : b.natAbs < 2 ^ 40) (h3 : c.natAbs < 2 ^ 40) (h4 : c ≠ 0) : 0 ≤ Builtin.Range.rangeSize a b c ∧ Builtin.Range.rangeSize a b c < 2 ^ 42 ∧ Builtin.Range.small a b c = true := by
  have key : 0 ≤ Builtin.Range.rangeSize a b c ∧ Builtin.Range.rangeSize a b c < 2 ^ 42 := by
    unfold Builtin.Range.rangeSize
    split
    · split
      · have e1 : 0 ≤ (b - a - 1) / c := Int.ediv_nonneg (by omega (splitDisjunctions := true)) (by omega (splitDisjunctions := true))
        have e2 : (b - a - 1) / c ≤ b - a - 1 := Int.ediv_le_self _ (by omega (splitDisjunctions := true))
        omega (splitDisjunctions := true)
      · omega (splitDisjunctions := true)
    · split
      · have e1 : 0 ≤ (a - b - 1) / (-c) := Int.ediv_nonneg (by omega (splitDisjunctions := true)) (by omega (splitDisjunctions := true))
        have e2 : (a - b - 1) / (-c) ≤ a - b - 1 := Int.ediv_le_self _ (by omega (splitDisjunctions := true))
        omega (splitDisjunctions := true)
      · omega (splitDisjunctions := true)
  refine ⟨key.1, key.2, ?_⟩
  unfold Builtin.Range.small Builtin.Range.rangeFitsLong
  have k1 := key.1
  have k2 := key.2
  simp only [Bool.and_eq_true, Bool.or_eq_true, decide_eq_true_eq]
  refine ⟨⟨⟨⟨by omega (splitDisjunctions := true), by omega (splitDisjunctions := true)⟩, by omega (splitDisjunctions := true)⟩, by omega (splitDisjunctions := true)⟩, .inr ?_⟩
  split <;> simp only [Bool.and_eq_true, decide_eq_true_eq] <;> omega (splitDisjunctions := true)

theorem below1 {h : Heap} {o : Obj} : ∀ b ∈ [h.objs.size], b < (h.push o).objs.size := fun b hb => by
  rw [List.mem_singleton.mp hb, Heap.size_push]; exact Nat.lt_succ_self _
theorem below2 {h : Heap} {o : Obj} {a : Addr} (hlt : a < h.objs.size) : ∀ b ∈ [h.objs.size, a], b < (h.push o).objs.size := fun b hb => by
  rw [Heap.size_push]
  replace hb := List.mem_cons.mp hb
  rcases hb with rfl | hb
  · exact Nat.lt_succ_self _
  · rw [List.mem_singleton.mp hb]; exact Nat.lt_succ_of_lt hlt
theorem two_or {I a : Addr} {P : Addr → Prop} (h : P a) : ∀ b ∈ [I, a], b = I ∨ P b := fun b hb => by
  replace hb := List.mem_cons.mp hb
  rcases hb with rfl | hb
  · exact .inl rfl
  · rw [List.mem_singleton.mp hb]; exact .inr h
theorem item_at {its : Array Value} {xs : List Sc} (hm : its.toList.map Sc.of = xs.map some) {i : Nat} {v : Value} (hx : its[i]? = some v) : ∃ c, xs[i]? = some c ∧ Sc.of v = some c := by
  have e := of_map_get hm i
  rw [Array.getElem?_toList, hx, Option.map_some] at e
  obtain ⟨c, hc, hs⟩ := map_s e.symm
  exact ⟨c, hc, hs.symm⟩
theorem iter_ok {p : PV} {xs : List Sc} {v : Value} {V : List Addr} {E : Value → Shared → Prop} (h : items p = some xs) (hv : Rep prog w V s.heap p v) :
    wpAny (model prog w) A (pyIter v) (fun it s' => Keeps s s' ∧ IterOf prog w V xs s.heap it s'.heap) E s := by
  replace h := onS_some h
  rcases h with ⟨l, rfl, h1⟩ | h
  · cases h1
    replace hv := of_str hv
    obtain ⟨t, rfl, hl⟩ := hv
    have fin : ∀ (o : Obj) (T : String), (s.heap.push o).IsStrIter s.heap.objs.size T ⟨l.toArray⟩ t 0 → (∀ A' : Around, A'.handled = none → Walks prog w A' s.heap.objs.size [s.heap.objs.size] [s.heap.objs.size] (l.toArray).size (SignAt ⟨l.toArray⟩) (fun i h => h.IsStrIter s.heap.objs.size T ⟨l.toArray⟩ t i)) →
        Keeps s { s with heap := s.heap.push o } ∧ IterOf prog w V (l.map fun c => Sc.str [c]) s.heap (.ref s.heap.objs.size) (s.heap.push o) := fun o T hi W => by
      refine ⟨Keeps.mk' (t := s.toks) (ext_push _ _), s.heap.objs.size, [s.heap.objs.size], SignAt ⟨l.toArray⟩, (fun i h => h.IsStrIter s.heap.objs.size T ⟨l.toArray⟩ t i), rfl, fun A' hA => ?_, hi, ?_, fresh_none _, fun _ _ st => let ⟨o, ho, _⟩ := st; ⟨o, ho⟩, ?_, ?_⟩
      · have := W A' hA
        simpa using this
      · exact below1
      · exact fun b hb => .inl (List.mem_singleton.mp hb)
      · rintro i v ⟨c, u, hc, rfl⟩
        refine ⟨.str [c], ?_, of_str_mk (l := [c]) _ (by simp [lim_val])⟩
        rw [List.getElem?_map]
        have : l[i]? = some c := by simpa using hc
        rw [this]; rfl
    cases ha : l.toArray.all (· < 128)
    · exact wpAny_pyIter_wide ha (fin _ _ ⟨_, Heap.get?_push_size _ rfl, rfl, rfl⟩ fun A' hA => Walks.strWide hA _ ⟨l.toArray⟩ t)
    · exact wpAny_pyIter_ascii ha (fin _ _ ⟨_, Heap.get?_push_size _ rfl, rfl, rfl⟩ fun A' hA => Walks.strAscii hA _ ⟨l.toArray⟩ t)
  replace h := onB_some h
  rcases h with ⟨l, rfl, h1⟩ | h
  · cases h1
    replace hv := of_bytes hv
    obtain ⟨b, t, rfl, rfl, hl⟩ := hv
    refine KBw.pyIter_bytes ⟨Keeps.mk' (t := s.toks) (ext_push _ _), s.heap.objs.size, [s.heap.objs.size], (fun i v => ∃ c u, b[i]? = some c ∧ v = .int (c.toNat : Int) u), (fun i h => KBw.IsBytesIter h s.heap.objs.size b t i), rfl, fun A' hA => ?_, ⟨_, Heap.get?_push_size _ rfl, rfl, rfl⟩, ?_, fresh_none _, fun _ _ st => let ⟨o, ho, _⟩ := st; ⟨o, ho⟩, ?_, ?_⟩
    · have := KBw.walks (prog := prog) (w := w) hA s.heap.objs.size b t
      simpa using this
    · exact below1
    · exact fun b hb => .inl (List.mem_singleton.mp hb)
    · rintro i v ⟨c, u, hc, rfl⟩
      refine ⟨.int c.toNat, ?_, rfl⟩
      rw [List.getElem?_map, List.getElem?_map]
      have : b.toList[i]? = some c := by simpa using hc
      rw [this]; rfl
  replace h := one_some h
  rcases h with ⟨l, hx, h1⟩ | h
  · cases u_eq hx; cases h1
    obtain ⟨a, its, rfl, ha, ht, hm⟩ := hv
    have e := of_map_len hm
    rw [Array.length_toList] at e
    have hlt : a < s.heap.objs.size := let ⟨o, ho, _⟩ := ht; Heap.lt_size ho
    refine wpAny_pyIter_tuple ht ⟨Keeps.mk' (t := s.toks) (ext_push _ _), s.heap.objs.size, [s.heap.objs.size, a], (fun i v => its[i]? = some v), (fun i h => h.IsTupleIter s.heap.objs.size a i ∧ h.IsTuple a its), rfl, fun A' hA => ?_, ⟨⟨_, Heap.get?_push_size _ rfl, rfl, rfl⟩, isTup_ext ht (ext_push _ _)⟩, ?_, fresh_none _, fun _ _ st => let ⟨⟨o, ho, _⟩, _⟩ := st; ⟨o, ho⟩, ?_, ?_⟩
    · rw [← e]; exact Walks.tuple hA _ _ (Nat.ne_of_lt hlt) its
    · exact below2 hlt
    · exact two_or ⟨ha, let ⟨o, ho, _⟩ := ht; ⟨o, ho⟩⟩
    · exact fun i v hx => item_at hm hx
  replace h := one_some h
  rcases h with ⟨l, hx, h1⟩ | h
  · cases l_eq hx; cases h1
    obtain ⟨a, its, rfl, ha, ht, hm, _⟩ := hv
    have e := of_map_len hm
    rw [Array.length_toList] at e
    have hlt : a < s.heap.objs.size := let ⟨o, ho⟩ := ht; Heap.lt_size ho
    refine wpAny_pyIter_list ht.isList ⟨Keeps.mk' (t := s.toks) (ext_push _ _), s.heap.objs.size, [s.heap.objs.size, a], (fun i v => its[i]? = some v), (fun i h => h.IsListIter s.heap.objs.size a i ∧ h.IsList a its), rfl, fun A' hA => ?_, ⟨⟨_, Heap.get?_push_size _ rfl, rfl, rfl⟩, isList_ext ht.isList (ext_push _ _)⟩, ?_, fresh_none _, fun _ _ st => let ⟨⟨o, ho, _⟩, _⟩ := st; ⟨o, ho⟩, ?_, ?_⟩
    · rw [← e]; exact Walks.list hA _ _ (Nat.ne_of_lt hlt) its
    · exact below2 hlt
    · exact two_or ⟨ha, let ⟨_, ho⟩ := ht; ⟨_, ho⟩⟩
    · exact fun i v hx => item_at hm hx
  · obtain ⟨⟨a, b, c⟩, hx, h1⟩ := one_last h
    replace hx := r_eq hx
    subst hx
    obtain ⟨hsm, h2⟩ := if_some h1
    cases h2
    obtain ⟨r, t, u, y, rfl, ha, hr⟩ := hv
    obtain ⟨h1, h2, h3, h4⟩ := hsm
    simp only [smallI, decide_eq_true_eq] at h1 h2 h3
    obtain ⟨g0, g1, g2⟩ := rangeSize_small h1 h2 h3 h4
    refine wpAny_pyIter_range hr g2 ⟨Keeps.mk' (t := s.toks) (ext_push _ _), s.heap.objs.size, [s.heap.objs.size], (fun i v => i < (rangeL a b c).length ∧ ∃ t, v = .int (a + i * c) t), (fun i h => IsRangeIter h s.heap.objs.size (a + (i : Nat) * c) ((((Builtin.Range.rangeSize a b c).toNat : Nat) : Int) - (i : Nat)) c), rfl, fun A' hA => ?_, ?_, ?_, fresh_none _, fun _ _ st => ⟨_, st⟩, ?_, ?_⟩
    · have := Walks.range (prog := prog) (w := w) hA s.heap.objs.size a c (Builtin.Range.rangeSize a b c).toNat
      have e : (rangeL a b c).length = (Builtin.Range.rangeSize a b c).toNat := by simp [rangeL]
      rw [e]; exact walks_bounded this
    · have e1 : a + ((0 : Nat) : Int) * c = a := by simp
      have e2 : (((Builtin.Range.rangeSize a b c).toNat : Nat) : Int) - ((0 : Nat) : Int) = Builtin.Range.rangeSize a b c := by omega
      show IsRangeIter _ _ (a + ((0 : Nat) : Int) * c) ((((Builtin.Range.rangeSize a b c).toNat : Nat) : Int) - ((0 : Nat) : Int)) c
      rw [e1, e2]
      exact Heap.get?_push_size _ rfl
    · exact below1
    · exact fun b hb => .inl (List.mem_singleton.mp hb)
    · rintro i v ⟨hi, t, rfl⟩
      refine ⟨.int (a + i * c), ?_, rfl⟩
      unfold rangeL at hi ⊢
      rw [List.length_map, List.length_range] at hi
      rw [List.getElem?_map, List.getElem?_range hi]
      rfl

end
end Mine

end
section
open PySem PySem.W PyProof.Rows PySem.Calls PySem.Builtin
set_option Elab.async false
set_option autoImplicit false
set_option maxRecDepth 100000
namespace Mine

theorem slot_bytes_join : PySem.Slot "bytes" "join" "bytes.join" :=
  .of (owner := "bytes") (n := "join") (by rw [typeLookup_type, builtinLookup_eq_fast]; kernel_rfl) (by decide +kernel) (by decide +kernel) (by decide +kernel)
    (by first | exact .inl (by decide +kernel) | exact .inr (by decide +kernel)) (by rw [isSubtype_type]; kernel_rfl)
theorem type_bytes_join : typeOf (.builtin "bytes.join") = pure (.type "method_descriptor") := by show builtinType _ = _; rw [builtinType_eq_fast]; kernel_rfl
theorem entry_bytes_join : entryFor table "bytes.join" = some Builtin.«bytes.join» := entryFor_of_tree (by kernel_rfl)
theorem args_bytes_join_2 (a b : Value) : argsOk "bytes.join" ⟨[a, b], []⟩ := by
  unfold argsOk; rw [signature?_of (id := "bytes.join") (n := ['n', 'i', 'o', 'j']) (o := ['s', 'e', 't', 'y', 'b']) (by kernel_rfl) FB.owner_bytes]; kernel_rfl
theorem slot_bytes_split : PySem.Slot "bytes" "split" "bytes.split" :=
  .of (owner := "bytes") (n := "split") (by rw [typeLookup_type, builtinLookup_eq_fast]; kernel_rfl) (by decide +kernel) (by decide +kernel) (by decide +kernel)
    (by first | exact .inl (by decide +kernel) | exact .inr (by decide +kernel)) (by rw [isSubtype_type]; kernel_rfl)
theorem type_bytes_split : typeOf (.builtin "bytes.split") = pure (.type "method_descriptor") := by show builtinType _ = _; rw [builtinType_eq_fast]; kernel_rfl
theorem entry_bytes_split : entryFor table "bytes.split" = some Builtin.«bytes.split» := entryFor_of_tree (by kernel_rfl)
theorem args_bytes_split_2 (a b : Value) : argsOk "bytes.split" ⟨[a, b], []⟩ := by
  unfold argsOk; rw [signature?_of (id := "bytes.split") (n := ['t', 'i', 'l', 'p', 's']) (o := ['s', 'e', 't', 'y', 'b']) (by kernel_rfl) FB.owner_bytes]; kernel_rfl
theorem slot_bytes_count : PySem.Slot "bytes" "count" "bytes.count" :=
  .of (owner := "bytes") (n := "count") (by rw [typeLookup_type, builtinLookup_eq_fast]; kernel_rfl) (by decide +kernel) (by decide +kernel) (by decide +kernel)
    (by first | exact .inl (by decide +kernel) | exact .inr (by decide +kernel)) (by rw [isSubtype_type]; kernel_rfl)
theorem type_bytes_count : typeOf (.builtin "bytes.count") = pure (.type "method_descriptor") := by show builtinType _ = _; rw [builtinType_eq_fast]; kernel_rfl
theorem entry_bytes_count : entryFor table "bytes.count" = some Builtin.«bytes.count» := entryFor_of_tree (by kernel_rfl)
theorem args_bytes_count_2 (a b : Value) : argsOk "bytes.count" ⟨[a, b], []⟩ := by
  unfold argsOk; rw [signature?_of (id := "bytes.count") (n := ['t', 'n', 'u', 'o', 'c']) (o := ['s', 'e', 't', 'y', 'b']) (by kernel_rfl) FB.owner_bytes]; kernel_rfl

/-! ## places -/
noncomputable def occ (c : UInt8) : Nat → List UInt8 → List Nat
  | _, [] => []
  | k, x :: r => if x = c then k :: occ c (k + 1) r else occ c (k + 1) r

theorem drop_cons' {α : Type} {l : List α} {k : Nat} {c : α} {r : List α} (h : l.drop k = c :: r) : l[k]? = some c ∧ l.drop (k + 1) = r ∧ k < l.length := by
  have h1 : k < l.length := by
    apply Classical.byContradiction
    intro q
    rw [List.drop_of_length_le (by omega)] at h; cases h
  refine ⟨?_, ?_, h1⟩
  · have := congrArg (·[0]?) h
    simpa [List.getElem?_drop] using this
  · rw [← List.drop_drop, h]; rfl

theorem extract_one {b : Array UInt8} {c d : UInt8} {k : Nat} {r : List UInt8} (h : b.toList.drop k = d :: r) : (b.extract k (k + 1) == #[c]) = (d == c) := by
  have e : b.extract k (k + 1) = #[d] := by
    apply Array.ext'
    rw [Array.toList_extract, List.extract_eq_take_drop, h]
    simp
  rw [e]
  simp

theorem occ_fold {b : Array UInt8} {c : UInt8} : ∀ (l : List UInt8) (k e : Nat) (acc : List Nat), b.toList.drop k = l → e ≤ k →
    (((List.range' k l.length).foldl (fun (acc : List Nat × Nat) i => if i ≥ acc.2 && b.extract i (i + (#[c] : Array UInt8).size) == #[c] then (i :: acc.1, i + (#[c] : Array UInt8).size) else acc) (acc, e)).1 = (occ c k l).reverse ++ acc)
  | [], k, e, acc, _, _ => by simp [occ]
  | d :: r, k, e, acc, h, he => by
    obtain ⟨h1, h2, h3⟩ := drop_cons' h
    rw [List.length_cons, List.range'_succ, List.foldl_cons]
    have e1 : (decide (k ≥ e) && b.extract k (k + (#[c] : Array UInt8).size) == #[c]) = (d == c) := by
      rw [show (#[c] : Array UInt8).size = 1 from rfl, extract_one h, decide_eq_true he, Bool.true_and]
    simp only [e1]
    by_cases hd : d = c
    · subst hd
      rw [if_pos (by simp)]
      rw [occ_fold r (k + 1) _ _ h2 (by simp)]
      simp [occ]
    · rw [if_neg (by simpa using hd)]
      rw [occ_fold r (k + 1) _ _ h2 (by omega)]
      simp [occ, hd]
theorem occ_eq (b : Array UInt8) (c : UInt8) : Bytes.occurrences b #[c] 0 b.size = occ c 0 b.toList := by
  unfold Bytes.occurrences
  have e : (List.map (fun x => x + 0) (List.range (b.size + 1 - (0 + (#[c] : Array UInt8).size)))) = List.range' 0 b.toList.length := by
    simp [List.range_eq_range']
  simp only [e]
  rw [occ_fold b.toList 0 0 [] (by simp) (Nat.le_refl _)]
  simp
theorem occ_length (c : UInt8) : ∀ (l : List UInt8) (k : Nat), (occ c k l).length = (l.filter (· == c)).length
  | [], _ => rfl
  | x :: r, k => by
    have ih := occ_length c r (k + 1)
    by_cases h : x = c
    · simp [occ, h, ih]
    · simp [occ, h, ih]
theorem occ_le (c : UInt8) (l : List UInt8) (k : Nat) : (occ c k l).length ≤ l.length := by
  rw [occ_length]; exact List.length_filter_le _ _

/-! ## the parts -/
noncomputable def consH (x : UInt8) : List (List UInt8) → List (List UInt8)
  | [] => [[x]]
  | y :: ys => (x :: y) :: ys
noncomputable def splitB (c : UInt8) : List UInt8 → List (List UInt8)
  | [] => [[]]
  | x :: r => if x = c then [] :: splitB c r else consH x (splitB c r)
noncomputable def headAdd (p : List UInt8) : List (List UInt8) → List (List UInt8)
  | [] => [p]
  | y :: ys => (p ++ y) :: ys
theorem splitB_ne (c : UInt8) : ∀ l, splitB c l ≠ []
  | [] => by simp [splitB]
  | x :: r => by
    unfold splitB
    split
    · simp
    · cases splitB c r <;> simp [consH]
theorem headAdd_nil {l : List (List UInt8)} (h : l ≠ []) : headAdd [] l = l := by cases l <;> simp_all [headAdd]
theorem headAdd_snoc (p : List UInt8) (x : UInt8) (l : List (List UInt8)) (h : l ≠ []) : headAdd (p ++ [x]) l = headAdd p (consH x l) := by
  rcases l with _ | ⟨y, ys⟩
  ·
    exact (h rfl).elim
  ·
    simp [headAdd, consH]

theorem between_fold {b : Array UInt8} {c : UInt8} : ∀ (l : List UInt8) (k last : Nat) (parts : Array (Array UInt8)), b.toList.drop k = l → last ≤ k → k ≤ b.size →
    (let q := (occ c k l).foldl (fun (q : Array (Array UInt8) × Nat) p => (q.1.push (b.extract q.2 p), p + 1)) (parts, last)
     ((q.1.push (b.extract q.2 b.size)).toList.map Array.toList)) = parts.toList.map Array.toList ++ headAdd (b.extract last k).toList (splitB c l)
  | [], k, last, parts, h, hl, hk => by
    have : k = b.size := by
      have := congrArg List.length h
      simp at this; omega
    subst this
    simp [occ, splitB, headAdd]
  | d :: r, k, last, parts, h, hl, hk => by
    replace h := drop_cons' h
    obtain ⟨h1, h2, h3⟩ := h
    by_cases hd : d = c
    · subst hd
      have ih := between_fold (c := d) r (k + 1) (k + 1) (parts.push (b.extract last k)) h2 (Nat.le_refl _) (by rw [Array.length_toList] at h3; omega)
      have e0 : (b.extract (k + 1) (k + 1)).toList = [] := by simp
      rw [e0, headAdd_nil (splitB_ne _ _)] at ih
      simp only [occ, if_true, List.foldl_cons]
      simp only [] at ih
      rw [ih]
      simp [splitB, headAdd]
    · have ih := between_fold (c := c) r (k + 1) last parts h2 (by omega) (by rw [Array.length_toList] at h3; omega)
      have e0 : (b.extract last (k + 1)).toList = (b.extract last k).toList ++ [d] := by
        rw [Array.toList_extract, Array.toList_extract, List.extract_eq_take_drop, List.extract_eq_take_drop]
        rw [show k + 1 - last = (k - last) + 1 by omega, List.take_add_one, List.getElem?_drop]
        rw [show last + (k - last) = k by omega, h1]
        rfl
      rw [e0, headAdd_snoc _ _ _ (splitB_ne _ _)] at ih
      simp only [occ, hd, if_false]
      simp only [] at ih
      rw [ih]
      simp [splitB, hd]
theorem between_eq (b : Array UInt8) (c : UInt8) : (Bytes.between b 1 (occ c 0 b.toList)).map Array.toList = splitB c b.toList := by
  have := between_fold (b := b) (c := c) b.toList 0 0 #[] (by simp) (Nat.le_refl _) (Nat.zero_le _)
  simp only [] at this
  unfold Bytes.between
  rw [show (b.extract 0 0).toList = [] by simp, headAdd_nil (splitB_ne _ _)] at this
  simpa using this
theorem splitB_nat (c : UInt8) : ∀ l : List UInt8, (splitB c l).map (·.map UInt8.toNat) = splitL c.toNat (l.map UInt8.toNat)
  | [] => rfl
  | x :: r => by
    have ih := splitB_nat c r
    by_cases h : x = c
    · subst h
      simp [splitB, splitL, ih]
    · have h' : ¬ x.toNat = c.toNat := fun e => h (UInt8.toNat_inj.mp e)
      simp only [splitB, h, if_false, List.map_cons, splitL, h', ← ih]
      cases splitB c r <;> simp [consH]
theorem splitL_le (c : Nat) : ∀ l : List Nat, (splitL c l).length ≤ l.length + 1 ∧ ∀ p ∈ splitL c l, p.length ≤ l.length
  | [] => by simp [splitL]
  | x :: r => by
    obtain ⟨i1, i2⟩ := splitL_le c r
    unfold splitL
    split
    · simp only [List.length_cons, List.mem_cons]
      refine ⟨by omega, ?_⟩
      rintro p (rfl | hp)
      · simp
      · have := i2 p hp; omega
    · split
      · simp
      · rename_i y ys hy
        rw [hy] at i1 i2
        simp only [List.length_cons, List.mem_cons] at *
        refine ⟨by omega, ?_⟩
        rintro p (rfl | hp)
        · have := i2 y (.inl rfl); simp; omega
        · have := i2 p (.inr hp); omega
end Mine

end
section
open PySem PySem.W PyProof.Rows PySem.Calls PySem.Builtin
set_option Elab.async false
set_option autoImplicit false
set_option maxRecDepth 100000
namespace Mine

theorem search_eq (b : Array UInt8) (c : UInt8) (t u : Tok) : Bytes.searchArgs .bytes "count" ⟨[.bytes b t, .bytes #[c] u], []⟩ = pure (b, #[c], if (b.size : Int) - 0 < 1 then none else some (0, b.size)) := by
  have e1 : ∀ id : String, selfAndSome id "count" 1 3 ⟨[.bytes b t, .bytes #[c] u], []⟩ = pure (.bytes b t, [.bytes #[c] u]) := fun _ => rfl
  have e2 : Bytes.bound? none = pure none := rfl
  have e3 : Bytes.payload (.bytes b t) = pure b := rfl
  unfold Bytes.searchArgs
  simp only [e1, pure_bind, List.headD_cons, KBy.buffer_eq, e3]
  have e4 : ([.bytes #[c] u] : List Value)[1]? = none := rfl
  have e5 : ([.bytes #[c] u] : List Value)[2]? = none := rfl
  simp only [e4, e5, e2, pure_bind]
  have e6 : Bytes.window b.size none none = (0, (b.size : Int)) := by
    unfold Bytes.window
    simp only [Option.getD_none, Int.lt_irrefl, if_false, Prod.mk.injEq, true_and]
    rw [if_neg (by omega)]
    omega
  rw [e6]
  rfl
theorem gives_bytes_count (b : Array UInt8) (c : UInt8) (t u : Tok) : PySem.Gives («bytes.count» ⟨[.bytes b t, .bytes #[c] u], []⟩) (.int ((b.toList.filter (· == c)).length : Nat)) := by
  refine .of_wp fun M A E s Q hq => ?_
  show wpAny M A (Bytes.searchArgs .bytes "count" ⟨[.bytes b t, .bytes #[c] u], []⟩ >>= fun r => _) _ E s
  refine wpAny_bind (wpAny_of_eq (search_eq b c t u) ?_)
  by_cases h : (b.size : Int) - 0 < 1
  · rw [if_pos h]
    have hb : b.toList = [] := by rw [← List.length_eq_zero_iff, Array.length_toList]; omega
    rw [hb] at hq
    exact wpAny_bind (wpAny_mkInt (wpAny_pure ⟨_, rfl, hq⟩))
  · rw [if_neg h]
    show wpAny M A (if (#[c] : Array UInt8).isEmpty = true then _ else retInt ((Bytes.occurrences b #[c] 0 b.size).length : Nat)) _ E s
    rw [if_neg (by simp), occ_eq, occ_length]
    exact wpAny_bind (wpAny_mkInt (wpAny_pure ⟨_, rfl, hq⟩))

theorem wpAny_mapM_new {M : Model} {A : Around} {E : Value → Shared → Prop} : ∀ (xs : List (Array UInt8)) (s : Shared) (Q : List Value → Shared → Prop), (∀ x ∈ xs, x.size ≤ sizeLine) →
    (∀ vs tk, Paired (fun x v => ∃ t, v = Value.bytes x t) xs vs → Q vs { s with toks := tk }) → wpAny M A (xs.mapM (Bytes.Kind.new .bytes)) Q E s
  | [], s, Q, _, h => by rw [List.mapM_nil]; exact wpAny_pure (h [] s.toks .nil)
  | x :: r, s, Q, hx, h => by
    rw [List.mapM_cons]
    refine wpAny_bind (wpAny_mkBytes (wpAny_bind (wpAny_mapM_new r _ _ (fun y hy => hx y (List.mem_cons_of_mem _ hy)) fun vs tk hp => wpAny_pure ?_)) (hx x (List.mem_cons_self ..)))
    exact h _ tk (.cons ⟨_, rfl⟩ hp)

theorem bind_opt (x : Value) : ∀ id : String, Bytes.bindOptional id "split" ["sep", "maxsplit"] [x] [] = pure [some x, none] := fun _ => rfl

theorem meets_bytes_split (b : Array UInt8) (c : UInt8) (t u : Tok) (hb : b.size ≤ 16777000) : Meets («bytes.split» ⟨[.bytes b t, .bytes #[c] u], []⟩) (fun _ R s =>
    ∀ vs tk, Paired (fun x v => ∃ t, v = Value.bytes x t) (Bytes.between b 1 (occ c 0 b.toList)) vs →
      R (.ok (.ret (.ref s.heap.objs.size))) { s with heap := s.heap.push { cls := .type "list", data := .seq vs.toArray }, toks := tk }) := by
  refine .of_wp fun prog w A R s hq => ?_
  generalize (fun e s' => R (.error e) s') = E
  have e3 : Bytes.payload (.bytes b t) = pure b := rfl
  show wpAny _ _ (Bytes.bindOptional _ "split" ["sep", "maxsplit"] [.bytes #[c] u] [] >>= fun r => _) _ E s
  refine wpAny_bind (wpAny_of_eq (bind_opt _ _) ?_)
  show wpAny _ _ (Bytes.payload (.bytes b t) >>= fun b => _) _ E s
  refine wpAny_bind (wpAny_of_eq e3 ?_)
  show wpAny _ _ (Bytes.bytesLike _ (.bytes #[c] u) >>= fun sep => _) _ E s
  have e4 : ∀ id : String, Bytes.bytesLike id (.bytes #[c] u) = pure #[c] := fun id => by
    unfold Bytes.bytesLike
    rw [KBy.buffer_eq]
    rfl
  refine wpAny_bind (wpAny_of_eq (e4 _) ?_)
  show wpAny _ _ (if (#[c] : Array UInt8).isEmpty = true then _ else if ((Bytes.occurrences b #[c] 0 b.size).take (b.size + 1)).isEmpty = true then _ else _) _ E s
  have hlen : (occ c 0 b.toList).length ≤ b.size := by have := occ_le c b.toList 0; simpa using this
  rw [if_neg (by simp), occ_eq, List.take_of_length_le (by omega)]
  have hsz : ∀ x ∈ Bytes.between b 1 (occ c 0 b.toList), x.size ≤ sizeLine ∧ (Bytes.between b 1 (occ c 0 b.toList)).length ≤ sizeLine := fun x hx => by
    have e := between_eq b c
    have hs := splitB_nat c b.toList
    obtain ⟨l1, l2⟩ := splitL_le c.toNat (b.toList.map UInt8.toNat)
    rw [← hs, ← e] at l1 l2
    simp only [List.length_map, Array.length_toList] at l1 l2
    have := l2 (x.toList.map UInt8.toNat) (List.mem_map_of_mem (List.mem_map_of_mem hx))
    simp only [List.length_map, Array.length_toList] at this
    rw [sizeLine_eq]; omega
  by_cases ho : (occ c 0 b.toList).isEmpty = true
  · rw [if_pos ho]
    rw [List.isEmpty_iff] at ho
    rw [ho] at hq
    refine wpAny_bind (wpAny_rule (wpAny_bind (wpAny_bind (wpAny_typeOf (typeIs_bytes s b t) ?_))))
    rw [if_pos (by decide)]
    refine wpAny_pure (wpAny_bind (wpAny_newList ?_ (by rw [sizeLine_eq]; simp)))
    refine wpAny_pure ⟨_, rfl, hq [.bytes b t] s.toks ?_⟩
    have : Bytes.between b 1 [] = [b] := by simp [Bytes.between]
    rw [this]
    exact .cons ⟨_, rfl⟩ .nil
  · rw [if_neg ho]
    show wpAny _ _ ((List.mapM (Bytes.Kind.new .bytes) (Bytes.between b 1 ((occ c 0 b.toList).take (b.size + 1)))) >>= fun x => newList x >>= fun x => ret x) _ E s
    rw [List.take_of_length_le (show (occ c 0 b.toList).length ≤ b.size + 1 by omega)]
    have hne : Bytes.between b 1 (occ c 0 b.toList) ≠ [] := fun e => by
      have := between_eq b c
      rw [e] at this
      exact splitB_ne _ _ this.symm
    obtain ⟨x0, hx0⟩ := List.exists_mem_of_ne_nil _ hne
    refine wpAny_bind (wpAny_mapM_new _ _ _ (fun x hx => (hsz x hx).1) fun vs tk hp => wpAny_bind (wpAny_newList ?_ (by rw [← paired_length hp]; exact (hsz x0 hx0).2)))
    exact wpAny_pure ⟨_, rfl, hq vs tk hp⟩
end Mine

end
section
open PySem PySem.W PyProof.Rows PySem.Calls PySem.Builtin
set_option Elab.async false
set_option autoImplicit false
set_option maxRecDepth 100000
namespace Mine

theorem joined_fold (sep : Array UInt8) : ∀ (l : List (Array UInt8)) (k : Nat) (acc : Array UInt8), 0 < k →
    ((l.zipIdx k).foldl (fun out (q : Array UInt8 × Nat) => (if q.2 > 0 then out ++ sep else out) ++ q.1) acc).toList = acc.toList ++ (l.flatMap fun x => sep.toList ++ x.toList)
  | [], _, acc, _ => by simp
  | x :: r, k, acc, h => by
    rw [List.zipIdx_cons, List.foldl_cons, joined_fold sep r (k + 1) _ (by omega)]
    simp [h]
theorem joinL_eq (sep : List Nat) : ∀ (x : List Nat) (r : List (List Nat)), joinL sep (x :: r) = x ++ r.flatMap fun y => sep ++ y
  | x, [] => by simp [joinL]
  | x, y :: r => by
    have e : joinL sep (x :: y :: r) = x ++ sep ++ joinL sep (y :: r) := rfl
    rw [e, joinL_eq sep y r]; simp
theorem joined_eq (sep : Array UInt8) (l : List (Array UInt8)) : (Bytes.joined sep l).toList.map UInt8.toNat = joinL (sep.toList.map UInt8.toNat) (l.map fun x => x.toList.map UInt8.toNat) := by
  unfold Bytes.joined
  rcases l with _ | ⟨x, r⟩
  ·
    simp [joinL]
  ·
    rw [List.map_cons, joinL_eq, List.zipIdx_cons, List.foldl_cons]
    simp only [Nat.zero_add]
    rw [joined_fold sep r 1 _ (by omega)]
    simp [List.map_flatMap, List.flatMap_map]

theorem take_quiet (id : String) (b : Array UInt8) (t : Tok) : ∀ {M : Model} {A : Around} {E : Value → Shared → Prop} {s : Shared} {Q : Option (Array UInt8 × Option Value) → Shared → Prop}, Q (some (b, none)) s → wpAny M A (Bytes.takeBufferQuiet? id (.bytes b t) 0) Q E s := by
  intro M A E s Q hq
  have e : Bytes.takeBuffer? id (.bytes b t) 0 = pure (some (b, none)) := by
    unfold Bytes.takeBuffer?
    rw [KBy.special_eq KBy.look_buffer, KBy.own_buffer]
    have : Bytes.buffer? id (.bytes b t) (full := (0 : Int) == Bytes.fullReadOnly) = pure (some b) := by
      have e0 : ((0 : Int) == Bytes.fullReadOnly) = false := by decide
      rw [e0]; exact KBy.buffer_eq
    simp only [pure_bind, this]
    rfl
  unfold Bytes.takeBufferQuiet?
  rw [e]
  refine wpAny_bind (wpAny_attempt (wpAny_pure ?_))
  exact wpAny_pure hq

theorem wpAny_joinLetGo {M : Model} {A : Around} {E : Value → Shared → Prop} {s : Shared} {Q : Unit → Shared → Prop} : ∀ (taken : List (Value × Option Value)) (keep : List Value), (∀ p ∈ taken, p.2 = none) → Q () s → wpAny M A (Bytes.joinLetGo taken keep) Q E s
  | [], _, _, h => wpAny_pure h
  | (x, w) :: r, keep, hw, h => by
    have : w = none := hw _ List.mem_cons_self
    subst this
    unfold Bytes.joinLetGo
    exact wpAny_bind (wpAny_letGo (wpAny_joinLetGo r keep (fun p hp => hw p (List.mem_cons_of_mem _ hp)) h))

theorem sum_fold (l : List (Array UInt8)) : ∀ n : Nat, l.foldl (fun x1 x2 => x1 + x2.size) n = n + (l.map Array.size).sum := by
  induction l with
  | nil => intro n; simp
  | cons x r ih => intro n; rw [List.foldl_cons, ih]; simp; omega

theorem jm (items : Array Value) (a : Value → Sem PySem.Fin) (b : Array Value → Sem PySem.Fin) : Bytes.joinM.match_1 (fun _ => Sem PySem.Fin) items a b = if h : items.size = 1 then a (items[0]) else b items := by
  obtain ⟨l⟩ := items
  match l with
  | [] => rfl
  | [x] => rfl
  | x :: y :: r =>
    rw [dif_neg (by simp)]
    unfold Bytes.joinM.match_1
    rw [dif_neg (by simp)]
theorem paired_at {α β : Type} {R : α → β → Prop} {l : List α} {r : List β} (h : Paired R l r) : ∀ {i : Nat} {a : α}, l[i]? = some a → ∃ b, r[i]? = some b ∧ R a b := by
  induction h with
  | nil => intro i a h; simp at h
  | cons x _ ih =>
    intro i a h
    rcases i with _ | i
    ·
      simp at h; subst h; exact ⟨_, rfl, x⟩
    ·
      exact ih (i := i) (by simpa using h)
theorem joined_size (sep : Array UInt8) (parts : List (Array UInt8)) : (Bytes.joined sep parts).size = sep.size * (parts.length - 1) + (parts.map Array.size).sum := by
  have e := congrArg List.length (joined_eq sep parts)
  rw [List.length_map, Array.length_toList] at e
  rw [e]
  rcases parts with _ | ⟨x, r⟩
  ·
    simp [joinL]
  ·
    rw [List.map_cons, joinL_eq]
    have : ∀ r : List (Array UInt8), (List.flatMap (fun y => List.map UInt8.toNat sep.toList ++ y) (List.map (fun x : Array UInt8 => List.map UInt8.toNat x.toList) r)).length = sep.size * r.length + (r.map Array.size).sum := by
      intro r
      induction r with
      | nil => simp
      | cons y r ih =>
        rw [List.map_cons, List.flatMap_cons, List.length_append, ih]
        simp [Nat.mul_add]; omega
    rw [List.length_append, this]
    simp; omega

theorem meets_bytes_join (sep : Array UInt8) (t : Tok) (l : Addr) (items : Array Value) (parts : List (Array UInt8)) (hp : Paired (fun x v => ∃ t, v = Value.bytes x t) parts items.toList)
    (hs : sep.size * (parts.length - 1) + (parts.map Array.size).sum ≤ 16777000) : Meets («bytes.join» ⟨[.bytes sep t, .ref l], []⟩) (fun _ R s =>
    (∃ n, s.heap.get? l = some { cls := .type "list", data := .seq items n }) ∧ ∀ t' tk, R (.ok (.ret (.bytes (Bytes.joined sep parts) t'))) { s with toks := tk }) := by
  refine .of_wp fun prog w A R s hq => ?_
  generalize (fun e s' => R (.error e) s') = E
  obtain ⟨⟨n, hl⟩, hq⟩ := hq
  have seqs : ∀ (tk : Nat) (Q : Option (Array Value) → Shared → Prop), Q (some items) { s with toks := tk } → wpAny (model prog w) A.in1 (seqItems? (.ref l)) Q E { s with toks := tk } := fun tk Q h => wpAny_seqItems hl rfl h
  have tyl : ∀ (Q : Value → Shared → Prop), Q (.type "list") s → wpAny (model prog w) A.in1 (typeOf (.ref l)) Q E s := fun Q h => wpAny_typeOf (T := "list") ⟨_, hl, rfl⟩ h
  show wpAny _ _ (Bytes.joinItems (.ref l) >>= fun seq => _) _ E s
  refine wpAny_bind ?_
  unfold Bytes.joinItems
  refine wpAny_bind (tyl _ ?_)
  rw [if_pos (by decide)]
  refine wpAny_pure ?_
  refine wpAny_bind (seqs s.toks _ ?_)
  show wpAny _ _ (if (Bytes.Kind.bytes == Bytes.Kind.bytes) = true then Bytes.joinM.match_1 (fun _ => Sem PySem.Fin) items _ _ else _) _ E _
  rw [if_pos (by decide), jm]
  by_cases h1 : items.size = 1
  case' neg =>
    rw [dif_neg h1]
    refine wpAny_bind ?_
    rw [Std.Legacy.Range.forIn_eq_forIn_range']
    refine wpAny_forIn_list (α := Nat) (β := Array (Array UInt8) × List (Value × Option Value)) _ (fun rest b s' => ∃ k tk, k ≤ items.size ∧ rest = List.range' k (items.size - k) ∧ b.1.toList = parts.take k ∧ (∀ p ∈ b.2, p.2 = none ∧ p.1.onHeap = false) ∧ s' = { s with toks := tk }) _ ?_ ?_ _ _ ?_
    · rintro i rest ⟨ps, tk⟩ s' ⟨k, tk', hk, hr, hps, htk, rfl⟩
      have hlt : k < items.size := by
        apply Classical.byContradiction
        intro h
        have : items.size - k = 0 := by omega
        rw [this] at hr; cases hr
      have hr' : items.size - k = (items.size - k - 1) + 1 := by omega
      rw [hr', List.range'_succ] at hr
      replace hr := List.cons.inj hr
      obtain ⟨rfl, rfl⟩ := hr
      have hlen := hp.length
      obtain ⟨b, hb⟩ : ∃ b, parts[i]? = some b := ⟨parts[i]'(by rw [hlen]; simpa using hlt), List.getElem?_eq_getElem _⟩
      obtain ⟨v, hv, t', rfl⟩ := paired_at hp hb
      have hg : items.getD i .none = .bytes b t' := by
        rw [Array.getElem?_toList] at hv
        simp [Array.getD_eq_getD_getElem?, hv]
      refine wpAny_bind (seqs tk' _ ?_)
      have han : tk.any (fun x => x.1.onHeap) = false := by
        rw [List.any_eq_false]
        intro p hp'
        rw [(htk p hp').2]; simp
      show wpAny _ _ (if (Bytes.Kind.bytes == Bytes.Kind.bytearray || tk.any fun x => x.1.onHeap) = true then _ else _) _ _ _
      rw [han, if_neg (by decide)]
      refine wpAny_bind (wpAny_holding ?_)
      show wpAny _ _ (Bytes.takeBufferQuiet? _ (items.getD i .none) 0) _ _ _
      rw [hg]
      refine take_quiet _ _ _ ?_
      refine wpAny_bind (seqs tk' _ ?_)
      show wpAny _ _ (if (items.size != items.size) = true then _ else _) _ _ _
      rw [if_neg (by simp)]
      refine wpAny_pure ⟨i + 1, tk', by omega, ?_, ?_, ?_, rfl⟩
      · rw [Nat.sub_sub]
      · show (ps.push b).toList = _
        rw [Array.toList_push, hps, List.take_add_one, hb]; rfl
      · intro p hp'
        replace hp' := List.mem_append.mp hp'
        rcases hp' with h | h
        · exact htk p h
        · rw [List.mem_singleton.mp h]; exact ⟨rfl, rfl⟩
    · rintro ⟨ps, tk⟩ s' ⟨k, tk', hk, hr, hps, htk, rfl⟩
      have hke : k = items.size := by
        have := congrArg List.length hr
        simp at this; omega
      have hlen : parts.length = items.size := by have := hp.length; simpa using this
      have hps' : ps.toList = parts := by
        have : ps.toList = parts.take k := hps
        rw [this]; exact List.take_of_length_le (Nat.le_of_eq (hlen.trans hke.symm))
      have hsz : ps.size = parts.length := by rw [← hps', Array.length_toList]
      refine wpAny_bind (wpAny_of_eq (show Bytes.payload (.bytes sep t) = pure sep from rfl) ?_)
      show wpAny _ _ (if Bytes.tooLong (ps.foldl (fun x1 x2 => x1 + x2.size) (sep.size * (ps.size - 1))) = true then _ else _) _ _ _
      have hf : ps.foldl (fun x1 x2 => x1 + x2.size) (sep.size * (ps.size - 1)) = sep.size * (parts.length - 1) + (parts.map Array.size).sum := by
        rw [← Array.foldl_toList, hps', sum_fold, hsz]
      rw [hf, if_neg (by rw [KBy.tooLong_not (by omega)]; decide)]
      refine wpAny_bind ?_
      show wpAny _ _ (mkBytes (Bytes.joined sep ps.toList)) _ _ _
      rw [hps']
      refine wpAny_mkBytes ?_ (by have := joined_size sep parts; rw [sizeLine_eq]; omega)
      refine wpAny_bind (wpAny_holding (wpAny_point (wpAny_bind (wpAny_joinLetGo _ _ (fun p h => (htk p h).1) (wpAny_pure ⟨_, rfl, hq _ _⟩)))))
    · exact ⟨0, s.toks, Nat.zero_le _, by simp, by simp, fun p h => by simp at h, rfl⟩
  case pos =>
    rw [dif_pos h1]
    have hlen := hp.length
    obtain ⟨b, hp1⟩ : ∃ b, parts = [b] := by
      rcases parts with _ | ⟨b, r⟩
      ·
        rw [← Array.length_toList, ← hlen] at h1; cases h1
      ·
        rcases r with _ | ⟨_, _⟩
        ·
          exact ⟨b, rfl⟩
        ·
          rw [← Array.length_toList, ← hlen] at h1; cases h1
    subst hp1
    obtain ⟨x, hx, t', rfl⟩ : ∃ x, items = #[x] ∧ ∃ t', x = .bytes b t' := by
      obtain ⟨L⟩ := items
      cases hp with
      | cons q1 q2 => cases q2; exact ⟨_, rfl, q1⟩
    subst hx
    show wpAny _ _ (typeOf (.bytes b t') >>= fun _ => _) _ _ _
    refine wpAny_bind (wpAny_typeOf (typeIs_bytes s b t') ?_)
    rw [if_pos (by decide)]
    have := hq t' s.toks
    have e : Bytes.joined sep [b] = b := by simp [Bytes.joined]
    rw [e] at this
    exact wpAny_bind (wpAny_rule (wpAny_pure ⟨_, rfl, this⟩))
end Mine

end
section
open PySem PySem.W PyProof.Rows PySem.Calls PySem.Builtin
set_option Elab.async false
set_option autoImplicit false
set_option maxRecDepth 100000
namespace Mine

/-! ## strip -/
theorem take_while_same {α : Type} (p q : α → Bool) (l : List α) (h : ∀ x, p x = q x) : l.takeWhile p = l.takeWhile q := by rw [funext h]
theorem drop_takeWhile_len {α : Type} (p : α → Bool) : ∀ l : List α, l.drop (l.takeWhile p).length = l.dropWhile p
  | [] => rfl
  | x :: r => by
    rw [List.takeWhile_cons, List.dropWhile_cons]
    split
    · rw [List.length_cons, List.drop_succ_cons, drop_takeWhile_len p r]
    · rfl
theorem take_takeWhile_len {α : Type} (p : α → Bool) (l : List α) : l.take (l.length - (l.reverse.takeWhile p).length) = (l.reverse.dropWhile p).reverse := by
  rw [← drop_takeWhile_len, List.reverse_drop]
  simp
theorem strip_eq (l : List Nat) : PySem.stripped (⟨#[32]⟩ : Str).cps.contains true true ⟨l.toArray⟩ = ⟨(stripL 32 l).toArray⟩ := by
  have hp : ∀ c : Nat, (#[32] : Array Nat).contains c = (c == 32) := fun c => by
    rw [Bool.eq_iff_iff]; simp
  unfold PySem.stripped PySem.Builtin.Str.strSub PySem.stripLo PySem.stripHi
  simp only [if_true]
  have e1 : ∀ l : List Nat, l.takeWhile ((#[32] : Array Nat).contains) = l.takeWhile (· == 32) := fun l => take_while_same _ _ _ hp
  rw [e1, e1]
  congr 1
  apply Array.ext'
  simp only [Array.toList_extract, List.extract_eq_take_drop, Str.length, List.size_toArray]
  unfold stripL
  rw [← take_takeWhile_len, ← drop_takeWhile_len (· == 32) l]
  congr 1
  simp only [List.length_drop]
  have : ((l.drop (l.takeWhile (· == 32)).length).reverse.takeWhile (· == 32)).length ≤ l.length - (l.takeWhile (· == 32)).length := by
    refine Nat.le_trans (List.takeWhile_sublist _).length_le ?_
    simp
  omega
theorem strip_same (l : List Nat) (h : PySem.stripSame (⟨#[32]⟩ : Str).cps.contains true true ⟨l.toArray⟩ = true) : stripL 32 l = l := by
  have e := strip_eq l
  unfold PySem.stripSame at h
  simp only [Bool.and_eq_true, beq_iff_eq] at h
  unfold PySem.stripped PySem.Builtin.Str.strSub at e
  rw [h.2, h.1] at e
  simp [Str.length] at e
  exact e.symm
theorem strip_len (l : List Nat) : (stripL 32 l).length ≤ l.length := by
  unfold stripL
  rw [List.length_reverse]
  refine Nat.le_trans (List.dropWhile_sublist _).length_le ?_
  rw [List.length_reverse]
  exact (List.dropWhile_sublist _).length_le

/-! ## split at a sign that is not there -/
theorem sub_none {l : List Nat} {c : Nat} (h : c ∉ l) (i : Nat) : PySem.Builtin.Str.subAt ⟨l.toArray⟩ ⟨#[c]⟩ i = false := by
  unfold PySem.Builtin.Str.subAt
  rw [beq_eq_false_iff_ne]
  intro e
  have := congrArg Array.toList e
  simp only [Array.toList_extract, List.extract_eq_take_drop, Str.length] at this
  have hm : c ∈ (List.drop i l).take (i + (#[c] : Array Nat).size - i) := by rw [this]; simp
  exact h (List.mem_of_mem_drop (List.mem_of_mem_take hm))
theorem occurrences_none {l : List Nat} {c : Nat} (h : c ∉ l) (a b k : Nat) : PySem.Builtin.Str.occurrences ⟨l.toArray⟩ ⟨#[c]⟩ a b k = [] := by
  unfold PySem.Builtin.Str.occurrences
  simp only [sub_none h, Bool.and_false, Bool.false_eq_true, if_false]
  have key : ∀ (r : List Nat) (q : Array Nat × Nat), r.foldl (fun b _ => (b.1, b.2)) q = q := by
    intro r
    induction r with
    | nil => intro q; rfl
    | cons x r ih => intro q; rw [List.foldl_cons]; exact ih q
  simp [Std.Legacy.Range.forIn_eq_forIn_range', Id.run, key]
  rfl

/-! ## upper -/
theorem upper_ascii : ∀ c : Nat, c < 128 → Unicode.upperOf c = [upperC c] := by
  have : ∀ c ∈ List.range 128, Unicode.upperOf c = [upperC c] := by decide +kernel
  intro c hc
  exact this c (List.mem_range.mpr hc)
theorem flat_single (l : List Nat) (f : Nat → Nat) : ((l.map fun c => [f c].toArray).toArray).flatten = (l.map f).toArray := by
  induction l with
  | nil => rfl
  | cons x r ih =>
    apply Array.ext'
    have := congrArg Array.toList ih
    simp at this ⊢
    exact this
theorem upper_eq (l : List Nat) (h : l.all (· < 128) = true) : Txt.upper ⟨l.toArray⟩ = ⟨(l.map upperC).toArray⟩ := by
  unfold Txt.upper placed
  congr 1
  have : (l.toArray.mapIdx fun i c => (Unicode.upperOf c).toArray) = (l.map fun c => [upperC c].toArray).toArray := by
    apply Array.ext
    · simp
    · intro i h1 h2
      simp only [Array.getElem_mapIdx, List.getElem_toArray, List.getElem_map]
      rw [upper_ascii]
      have := List.all_eq_true.mp h (l[i]'(by simpa using h1)) (List.getElem_mem _)
      simpa using this
  simp only [this]
  exact flat_single l upperC

/-! ## join -/
theorem str_append (a b : List Nat) : (⟨a.toArray⟩ : Str) ++ ⟨b.toArray⟩ = ⟨(a ++ b).toArray⟩ := by
  show Str.append _ _ = _
  simp [Str.append]
theorem join_eq (sep : List Nat) : ∀ xs : List (List Nat), Str.join ⟨sep.toArray⟩ (xs.map fun x => (⟨x.toArray⟩ : Str)) = ⟨(joinL sep xs).toArray⟩
  | [] => rfl
  | [x] => rfl
  | x :: y :: r => by
    show (⟨x.toArray⟩ : Str) ++ ⟨sep.toArray⟩ ++ Str.join ⟨sep.toArray⟩ ((y :: r).map fun x => (⟨x.toArray⟩ : Str)) = _
    rw [join_eq sep (y :: r), str_append, str_append]
    rfl
end Mine

end
section
open PySem PySem.W PyProof.Rows PySem.Calls PySem.Builtin
set_option Elab.async false
set_option autoImplicit false
set_option maxRecDepth 100000
namespace Mine
section
variable {prog : Program} {w : World} {A : Around} {s : Shared}

theorem strs_of : ∀ {l : List Sc} {items : List Value} {xs : List (List Nat)}, items.map Sc.of = l.map some → toStrs l = some xs → ∃ q : List (Str × Tok), items = strValues q ∧ q.map (·.1) = xs.map fun x => (⟨x.toArray⟩ : Str)
  | [], [], xs, _, h => by cases h; exact ⟨[], rfl, rfl⟩
  | c :: r, v :: vs, xs, e, h => by
    simp only [List.map_cons, List.cons.injEq] at e
    cases c <;> simp only [toStrs] at h <;> try cases h
    rename_i y
    replace h := map_s h
    obtain ⟨ys, hy, rfl⟩ := h
    obtain ⟨q, rfl, hq⟩ := strs_of e.2 hy
    obtain ⟨t, rfl, _⟩ := of_str e.1
    exact ⟨(⟨y.toArray⟩, t) :: q, rfl, by simp [hq]⟩
  | [], _ :: _, xs, e, _ => by cases e
  | _ :: _, [], xs, e, _ => by cases e
theorem byts_of : ∀ {l : List Sc} {items : List Value} {xs : List (List Nat)}, items.map Sc.of = l.map some → toByts l = some xs → ∃ parts : List (Array UInt8), Paired (fun x v => ∃ t, v = Value.bytes x t) parts items ∧ parts.map (fun b => b.toList.map UInt8.toNat) = xs
  | [], [], xs, _, h => by cases h; exact ⟨[], .nil, rfl⟩
  | c :: r, v :: vs, xs, e, h => by
    simp only [List.map_cons, List.cons.injEq] at e
    cases c <;> simp only [toByts] at h <;> try cases h
    rename_i y
    replace h := map_s h
    obtain ⟨ys, hy, rfl⟩ := h
    obtain ⟨q, hp, hq⟩ := byts_of e.2 hy
    obtain ⟨b, t, rfl, hb, _⟩ := of_bytes e.1
    exact ⟨b :: q, .cons ⟨t, rfl⟩ hp, by simp [hq, hb]⟩
  | [], _ :: _, xs, e, _ => by cases e
  | _ :: _, [], xs, e, _ => by cases e
theorem joinL_len (sep : List Nat) : ∀ xs : List (List Nat), (joinL sep xs).length = (xs.map List.length).sum + (xs.length - 1) * sep.length
  | [] => by simp [joinL]
  | x :: r => by
    rw [joinL_eq]
    have : ∀ r : List (List Nat), (r.flatMap fun y => sep ++ y).length = (r.map List.length).sum + r.length * sep.length := by
      intro r
      induction r with
      | nil => simp
      | cons y r ih => rw [List.flatMap_cons, List.length_append, ih]; simp [Nat.add_mul]; omega
    rw [List.length_append, this]; simp; omega
theorem dictOf_get {d : List (List Nat × Sc)} {x : Str} {kvs : List (Str × Value)} (h : (valueAt kvs x).map Sc.of = (d.reverse.lookup x.cps.toList).map some) {y : Value} {q : Sc} (hy : Sc.of y = some q) :
    Sc.of ((valueAt kvs x).getD y) = some ((d.reverse.lookup x.cps.toList).getD q) := by
  cases e : valueAt kvs x with
  | none =>
    rw [e] at h
    cases e' : d.reverse.lookup x.cps.toList with
    | none => simpa using hy
    | some c => rw [e'] at h; cases h
  | some v =>
    rw [e] at h
    cases e' : d.reverse.lookup x.cps.toList with
    | none => rw [e'] at h; cases h
    | some c => rw [e'] at h; simpa using h

theorem of_byts {q : List (Array UInt8)} {vs : List Value} (hp : Paired (fun x v => ∃ t, v = Value.bytes x t) q vs) : (∀ y ∈ q, y.size ≤ lim) → vs.map Sc.of = List.map (some ∘ Sc.bytes ∘ (fun x => List.map UInt8.toNat x) ∘ Array.toList) q := by
  induction hp with
  | nil => intro _; rfl
  | cons h1 h2 ih =>
    intro h
    obtain ⟨t', rfl⟩ := h1
    rw [List.map_cons, List.map_cons, ih fun y hy => h y (List.mem_cons_of_mem _ hy), of_bytes_mk t' (h _ List.mem_cons_self)]
    rfl
theorem map_one {α β : Type} {f : α → β} {l : List α} {c : β} (h : l.map f = [c]) : ∃ x, l = [x] ∧ f x = c := by
  rcases l with _ | ⟨a, r⟩
  ·
    cases h
  ·
    rcases r with _ | ⟨_, _⟩
    ·
      cases h; exact ⟨a, rfl, rfl⟩
    ·
      cases h
theorem paired_one {α β : Type} {F : α → β → Prop} {a : α} {r : List β} (h : Paired F [a] r) : ∃ b, r = [b] ∧ F a b := by
  obtain ⟨b, _, rfl, hb, h⟩ := paired_cons h
  rw [paired_nil h]; exact ⟨b, rfl, hb⟩
theorem of_sign {v : Value} {c : Nat} (h : Sc.of v = some (.bytes [c])) : ∃ x t, v = .bytes #[x] t ∧ x.toNat = c := by
  obtain ⟨⟨d⟩, t, rfl, hd, _⟩ := of_bytes h
  obtain ⟨x, hx, e⟩ := map_one (l := d) hd
  exact ⟨x, t, by rw [hx], e⟩
/-- what a method gives -/
inductive MeOk (prog : Program) (w : World) (A : Around) (s : Shared) (W V : List Addr) (nm : Str) (ps : List PV) (r : PV) (v : Value) : Prop
  | mk (T id : String) (h1 : PlainAttrs T) (h2 : PySem.Slot T nm id) (h3 : typeOf (.builtin id) = pure (.type "method_descriptor")) (h4 : s.TypeIs v T) (h5 : ∀ a, v = .ref a → ∃ ob, s.heap.get? a = some ob ∧ ob.dict = none)
      (h6 : ∀ (s' : Shared) (vs : List Value), Ext s.heap s'.heap → Live V s'.heap → A.handled = none → Paired (Rep prog w W s'.heap) ps vs → Mine.Gives (model prog w) A (call (.builtin id) (v :: vs)) s' (fun h x => Rep prog w V h r x))
section
variable {W V : List Addr} {nm : Str} {ps : List PV} {r : PV} {v : Value}
theorem me_s {id : String} {l : List Nat} (hv : Sc.of v = some (.str l)) (h2 : PySem.Slot "str" nm id) (h3 : typeOf (.builtin id) = pure (.type "method_descriptor"))
    (h : ∀ t, l.length ≤ lim → ∀ (s' : Shared) (vs : List Value), Live V s'.heap → Paired (Rep prog w W s'.heap) ps vs → Mine.Gives (model prog w) A (call (.builtin id) (.str ⟨l.toArray⟩ t :: vs)) s' (fun h x => Rep prog w V h r x)) : MeOk prog w A s W V nm ps r v := by
  obtain ⟨t, rfl, hl⟩ := of_str hv
  exact ⟨"str", id, F.plainAttrs_str, h2, h3, typeIs_str _ _ _, (fun _ e => nomatch e), fun s' vs _ hL _ hp => h t hl s' vs hL hp⟩
theorem me_b {id : String} {l : List Nat} (hv : Sc.of v = some (.bytes l)) (h2 : PySem.Slot "bytes" nm id) (h3 : typeOf (.builtin id) = pure (.type "method_descriptor"))
    (h : ∀ (b : Array UInt8) t, b.toList.map UInt8.toNat = l → l.length ≤ lim → ∀ (s' : Shared) (vs : List Value), Live V s'.heap → Paired (Rep prog w W s'.heap) ps vs → Mine.Gives (model prog w) A (call (.builtin id) (.bytes b t :: vs)) s' (fun h x => Rep prog w V h r x)) : MeOk prog w A s W V nm ps r v := by
  obtain ⟨b, t, rfl, hb, hl⟩ := of_bytes hv
  exact ⟨"bytes", id, FB.plainAttrs_bytes, h2, h3, typeIs_bytes _ _ _, (fun _ e => nomatch e), fun s' vs _ hL _ hp => h b t hb hl s' vs hL hp⟩
end
theorem joinOk_of {sep : List Nat} {xs : List (List Nat)} (hl : (joinL sep xs).length ≤ lim) (h2 : sep.length ≤ lim) : JoinOk ⟨sep.toArray⟩ (xs.map fun x => (⟨x.toArray⟩ : Str)) = true := by
  unfold JoinOk PySem.Builtin.Str.tooLong
  rw [StrLaws.joinTotal, sizeLine_eq]
  have e := joinL_len sep xs
  have e2 : (List.map (fun x => x.length) (List.map (fun x => (⟨x.toArray⟩ : Str)) xs)).sum = (xs.map List.length).sum := by
    rw [List.map_map]; congr 1
  rw [e2, List.length_map]
  have e3 : xs.length * sep.length ≤ (xs.length - 1) * sep.length + sep.length := by
    cases xs <;> simp [Nat.add_mul]
  have e4 : (⟨sep.toArray⟩ : Str).length = sep.length := by simp [Str.length]
  have hlim := lim_val
  rw [e4]
  simp only [Bool.not_eq_true', decide_eq_false_iff_not]
  clear e2 e4
  omega
theorem join_s {sep : List Nat} {l : List Sc} {r : PV} {vs : List Value} {t : Tok} {W V : List Addr} (h : ((toStrs l).bind fun xs => mkS (joinL sep xs)) = some r) (hs : sep.length ≤ lim) (hp : Paired (Rep prog w W s.heap) [.lst l] vs) :
    Mine.Gives (model prog w) A (call (.builtin "str.join") (.str ⟨sep.toArray⟩ t :: vs)) s (fun h x => Rep prog w V h r x) := by
  intro E
  replace h := bind_s h
  obtain ⟨xs, hxs, h⟩ := h
  replace h := if_some h
  obtain ⟨hl, h⟩ := h
  cases h
  obtain ⟨u, rfl, h1⟩ := paired_one hp
  obtain ⟨D, its, rfl, -, ⟨n, ho⟩, hm, -⟩ := h1
  obtain ⟨q, hq, hq'⟩ := strs_of hm hxs
  refine SC.join (D := D) (l := q) (texts := xs.map fun x => (⟨x.toArray⟩ : Str)) ⟨_, ho, rfl, n, by rw [← hq]⟩ hq' (joinOk_of hl hs) fun t' k => ⟨Keeps.tk _ _, ?_⟩
  have : Txt.join ⟨sep.toArray⟩ (xs.map fun x => (⟨x.toArray⟩ : Str)) = ⟨(joinL sep xs).toArray⟩ := by
    show PySem.Builtin.Str.glued _ _ = _
    rw [StrLaws.glued_eq_join, join_eq]
  rw [this]
  exact of_str_mk _ hl
theorem join_b {b : Array UInt8} {l : List Sc} {r : PV} {vs : List Value} {t : Tok} {W V : List Addr} (h : ((toByts l).bind fun xs => mkB (joinL (b.toList.map UInt8.toNat) xs)) = some r) (hp : Paired (Rep prog w W s.heap) [.lst l] vs) :
    Mine.Gives (model prog w) A (call (.builtin "bytes.join") (.bytes b t :: vs)) s (fun h x => Rep prog w V h r x) := by
  intro E
  have hlim := lim_val
  replace h := bind_s h
  obtain ⟨xs, hxs, h⟩ := h
  replace h := if_some h
  obtain ⟨hl, h⟩ := h
  cases h
  obtain ⟨u, rfl, h1⟩ := paired_one hp
  obtain ⟨D, its, rfl, -, ⟨n, ho⟩, hm, -⟩ := h1
  obtain ⟨parts, hp, hq'⟩ := byts_of hm hxs
  have hj := joined_size b parts
  have e := congrArg List.length (joined_eq b parts)
  rw [hq', List.length_map, Array.length_toList] at e
  refine call_meets slot_bytes_join (typeIs_bytes _ _ _) entry_bytes_join (args_bytes_join_2 _ _) (meets_bytes_join b t D its parts hp (by omega (splitDisjunctions := true))) ⟨⟨n, ho⟩, fun t' tk => ⟨Keeps.tk _ _, ?_⟩⟩
  have := of_bytes_mk (b := Bytes.joined b parts) t' (by omega (splitDisjunctions := true))
  rw [joined_eq, hq'] at this
  exact this
theorem strip_g {l : List Nat} {t : Tok} {vs : List Value} {W V : List Addr} (hl : l.length ≤ lim) (hp : Paired (Rep prog w W s.heap) [.sc (.str [32])] vs) :
    Mine.Gives (model prog w) A (call (.builtin "str.strip") (.str ⟨l.toArray⟩ t :: vs)) s (fun h x => Rep prog w V h (.sc (.str (stripL 32 l))) x) := by
  intro E
  have hlim := lim_val
  obtain ⟨u, rfl, h1⟩ := paired_one hp
  obtain ⟨u, rfl, _⟩ := of_str h1
  refine call_gives F.slot_str_strip (typeIs_str _ _ _) F.entry_str_strip (F.args_str_strip_2 _ _) (gives_str_strip_chars _ _ t u) ?_
  have hsl := strip_len l
  split
  · rename_i hs
    refine ⟨Keeps.refl _, ?_⟩
    show Sc.of _ = _
    rw [strip_same l hs]; exact of_str_mk _ hl
  · rw [strip_eq]
    refine ⟨?_, Keeps.tk _ _, of_str_mk _ (by omega)⟩
    rw [sizeLine_eq]; simp [Str.length]; omega
theorem split_s {l : List Nat} {c : Nat} {t : Tok} {vs : List Value} {W V : List Addr} (hc : c ∉ l) (hl : l.length ≤ lim) (hL : Live V s.heap) (hp : Paired (Rep prog w W s.heap) [.sc (.str [c])] vs) :
    Mine.Gives (model prog w) A (call (.builtin "str.split") (.str ⟨l.toArray⟩ t :: vs)) s (fun h x => Rep prog w V h (.lst [.str l]) x) := by
  intro E
  obtain ⟨u, rfl, h1⟩ := paired_one hp
  obtain ⟨u, rfl, _⟩ := of_str h1
  have fin : Rep prog w V (s.heap.push { cls := .type "list", data := .seq #[.str ⟨l.toArray⟩ t] }) (.lst [.str l]) (.ref s.heap.objs.size) :=
    ⟨_, _, rfl, hL.fresh, ⟨_, Heap.get?_push_size _ rfl⟩, by simp [of_str_mk t hl], by simp [lim_val]⟩
  cases h1 : (decide ((⟨l.toArray⟩ : Str).length < (⟨#[c]⟩ : Str).length) || decide (PySem.Builtin.Str.strKind ⟨l.toArray⟩ < PySem.Builtin.Str.strKind ⟨#[c]⟩))
  · exact call_meets F.slot_str_split (typeIs_str _ _ _) F.entry_str_split (F.args_str_split_2 _ _) (meets_str_split_not_found _ _ t u h1 (by rfl) (by rw [occurrences_none hc]; rfl)) ⟨Keeps.mk' (t := s.toks) (ext_push _ _), fin⟩
  · exact call_meets F.slot_str_split (typeIs_str _ _ _) F.entry_str_split (F.args_str_split_2 _ _) (meets_str_split_cannot_occur _ _ t u h1) ⟨Keeps.mk' (t := s.toks) (ext_push _ _), fin⟩
theorem split_b {b : Array UInt8} {c : Nat} {t : Tok} {r : PV} {vs : List Value} {W V : List Addr} (h : mkL ((splitL c (b.toList.map UInt8.toNat)).map .bytes) = some r) (hl : (b.toList.map UInt8.toNat).length ≤ lim) (hL : Live V s.heap) (hp : Paired (Rep prog w W s.heap) [.sc (.bytes [c])] vs) :
    Mine.Gives (model prog w) A (call (.builtin "bytes.split") (.bytes b t :: vs)) s (fun h x => Rep prog w V h r x) := by
  intro E
  replace h := if_some h
  obtain ⟨hll, h⟩ := h
  cases h
  obtain ⟨u, rfl, h1⟩ := paired_one hp
  replace h1 := of_sign h1
  obtain ⟨x, u, rfl, rfl⟩ := h1
  have hb : b.size ≤ 65536 := by rw [lim_val] at hl; simpa using hl
  refine call_meets slot_bytes_split (typeIs_bytes _ _ _) entry_bytes_split (args_bytes_split_2 _ _) (meets_bytes_split b x t u (by omega)) fun vs tk hp => ?_
  refine ⟨Keeps.mk' (ext_push _ _), _, _, rfl, hL.fresh, ⟨_, Heap.get?_push_size _ rfl⟩, ?_, hll⟩
  have hs := splitB_nat x b.toList
  have hle := (splitL_le x.toNat (b.toList.map UInt8.toNat)).2
  rw [← hs, ← between_eq b x] at hle ⊢
  clear hs hll
  generalize Bytes.between b 1 (occ x 0 b.toList) = q at hp hle ⊢
  simp only [List.map_map]
  exact of_byts hp fun y hy => by
    have := hle (y.toList.map UInt8.toNat) (List.mem_map_of_mem (List.mem_map_of_mem hy))
    rw [List.length_map, Array.length_toList] at this
    exact Nat.le_trans this hl
theorem count_b {b : Array UInt8} {c : Nat} {t : Tok} {vs : List Value} {W V : List Addr} (hp : Paired (Rep prog w W s.heap) [.sc (.bytes [c])] vs) :
    Mine.Gives (model prog w) A (call (.builtin "bytes.count") (.bytes b t :: vs)) s (fun h x => Rep prog w V h (.sc (.int ((b.toList.map UInt8.toNat).filter (· == c)).length)) x) := by
  intro E
  obtain ⟨u, rfl, h1⟩ := paired_one hp
  replace h1 := of_sign h1
  obtain ⟨x, u, rfl, rfl⟩ := h1
  refine call_gives slot_bytes_count (typeIs_bytes _ _ _) entry_bytes_count (args_bytes_count_2 _ _) (gives_bytes_count b x t u) ⟨Keeps.tk _ _, ?_⟩
  show Sc.of _ = _
  have : (b.toList.filter (· == x)).length = ((b.toList.map UInt8.toNat).filter (· == x.toNat)).length := by
    rw [List.filter_map, List.length_map]
    congr 2
    funext y
    rw [Bool.eq_iff_iff]; simp [Function.comp, ← UInt8.toNat_inj]
  rw [this]; rfl
theorem get_d {d : List (List Nat × Sc)} {k : List Nat} {q : Sc} {a : Addr} {kvs : List (Str × Value)} {vs : List Value} {W V : List Addr} (hsys : a ≠ sysModules) (hd : s.heap.DictOf (strKind prog w) a kvs) (hval : ∀ x : Str, (valueAt kvs x).map Sc.of = (d.reverse.lookup x.cps.toList).map some) (hp : Paired (Rep prog w W s.heap) [.sc (.str k), .sc q] vs) :
    Mine.Gives (model prog w) A (call (.builtin "dict.get") (.ref a :: vs)) s (fun h x => Rep prog w V h (.sc ((d.reverse.lookup k).getD q)) x) := by
  intro E
  obtain ⟨kv, _, rfl, h1, hp⟩ := paired_cons hp
  obtain ⟨yv, rfl, h2⟩ := paired_one hp
  replace h1 := of_str h1
  obtain ⟨t, rfl, _⟩ := h1
  refine call_meetsIn F.slot_dict_get hd.typeIs F.entry_dict_get (F.args_dict_get_3 _ _ _) (meets_dict_get_default (strKind prog w) a (key := .str ⟨k.toArray⟩ t) (k := ⟨k.toArray⟩) ?_ ?_ yv) ⟨_, hd.mapOf, Keeps.tk _ _, ?_⟩
  · simp [PySem.strKind, Value.isStrOf]
  · simpa using hsys
  · have := dictOf_get (hval ⟨k.toArray⟩) h2
    show Sc.of _ = _
    simpa using this
section
variable {W V : List Addr} {p r : PV} {ps : List PV} {v : Value}
theorem me_join (h : meF .join p ps = some r) (hv : Rep prog w W s.heap p v) : MeOk prog w A s W V (meName .join) ps r v := by
  replace h := arg1_some h
  obtain ⟨q, rfl, h⟩ := h
  replace h := one_last h
  obtain ⟨l, hx, h⟩ := h
  replace hx := l_eq hx
  subst hx
  replace h := onS_some h
  rcases h with ⟨sep, rfl, h⟩ | h
  · exact me_s hv F.slot_str_join F.type_str_join fun t hl s' vs hL hp => join_s h hl hp
  · obtain ⟨sep, rfl, h⟩ := onB_last h
    exact me_b hv slot_bytes_join type_bytes_join fun b t hb hl s' vs hL hp => join_b (by rw [hb]; exact h) hp
theorem me_strip (h : meF .strip p ps = some r) (hv : Rep prog w W s.heap p v) : MeOk prog w A s W V (meName .strip) ps r v := by
  replace h := arg1_some h
  obtain ⟨q, rfl, h⟩ := h
  replace h := onS_last h
  obtain ⟨x, rfl, h⟩ := h
  replace h := onS_last h
  obtain ⟨l, rfl, h⟩ := h
  replace h := one_last h
  obtain ⟨c, hc, h⟩ := h
  replace hc := sing_eq hc
  subst hc
  replace h := if_some h
  obtain ⟨hc, h⟩ := h
  cases h; subst hc
  exact me_s hv F.slot_str_strip F.type_str_strip fun t hl s' vs hL hp => strip_g hl hp
theorem me_split (h : meF .split p ps = some r) (hv : Rep prog w W s.heap p v) : MeOk prog w A s W V (meName .split) ps r v := by
  replace h := arg1_some h
  obtain ⟨q, rfl, h⟩ := h
  replace h := onS_some h
  rcases h with ⟨x, rfl, h⟩ | h
  · replace h := onS_last h
    obtain ⟨l, rfl, h⟩ := h
    replace h := one_last h
    obtain ⟨c, hc, h⟩ := h
    replace hc := sing_eq hc
    subst hc
    have hc : ¬ (l.contains c = true) := fun e => by rw [if_pos e] at h; exact ns h
    rw [if_neg hc] at h
    cases h
    exact me_s hv F.slot_str_split F.type_str_split fun t hl s' vs hL hp => split_s (by simpa using hc) hl hL hp
  · replace h := onB_last h
    obtain ⟨x, rfl, h⟩ := h
    replace h := onB_last h
    obtain ⟨l, rfl, h⟩ := h
    replace h := one_last h
    obtain ⟨c, hc, h⟩ := h
    replace hc := sing_eq hc
    subst hc
    exact me_b hv slot_bytes_split type_bytes_split fun b t hb hl s' vs hL hp => split_b (by rw [hb]; exact h) (by rw [hb]; exact hl) hL hp
theorem me_upper (h : meF .upper p ps = some r) (hv : Rep prog w W s.heap p v) : MeOk prog w A s W V (meName .upper) ps r v := by
  rcases ps with _ | ⟨_, _⟩
  ·
    replace h := onS_last h
    obtain ⟨l, rfl, h⟩ := h
    replace h := if_some h
    obtain ⟨hal, h⟩ := h
    cases h
    refine me_s hv F.slot_str_upper F.type_str_upper fun t hl s' vs hL hp E => ?_
    cases paired_nil hp
    refine SCL.upper (by have := lim_val; simp [Str.length]; omega) fun _ => ⟨Keeps.tk _ _, ?_⟩
    rw [upper_eq l hal]
    exact of_str_mk _ (by simpa using hl)
  ·
    exact ns h
theorem me_count (h : meF .count p ps = some r) (hv : Rep prog w W s.heap p v) : MeOk prog w A s W V (meName .count) ps r v := by
  replace h := arg1_some h
  obtain ⟨q, rfl, h⟩ := h
  replace h := onB_last h
  obtain ⟨x, rfl, h⟩ := h
  replace h := onB_last h
  obtain ⟨l, rfl, h⟩ := h
  replace h := one_last h
  obtain ⟨c, hc, h⟩ := h
  replace hc := sing_eq hc
  subst hc
  cases h
  exact me_b hv slot_bytes_count type_bytes_count fun b t hb hl s' vs hL hp => by rw [← hb]; exact count_b hp
theorem me_get (h : meF .get p ps = some r) (hv : Rep prog w W s.heap p v) : MeOk prog w A s W V (meName .get) ps r v := by
  replace h := arg2_some h
  obtain ⟨k, q, rfl, h⟩ := h
  replace h := one_last h
  obtain ⟨d, hx, h⟩ := h
  replace h := onS_last h
  obtain ⟨k, rfl, h⟩ := h
  replace h := onC_last h
  obtain ⟨q, rfl, h⟩ := h
  replace hx := ds_eq hx
  subst hx
  cases h
  obtain ⟨a, kvs, rfl, ha, hsys, hd, hlen, hval⟩ := hv
  refine ⟨"dict", _, F.plainAttrs_dict, F.slot_dict_get, F.type_dict_get, hd.typeIs, hd.mapOf.noDict, fun s' vs hx hL hA hp => ?_⟩
  obtain ⟨o, es, ep, ho, hr⟩ := hd
  exact get_d hsys ⟨o, es, ep, hx _ _ ho, hr⟩ hval hp
theorem me_ok {m : Me} (h : meF m p ps = some r) (hv : Rep prog w W s.heap p v) : MeOk prog w A s W V (meName m) ps r v := by
  induction m with
  | join => exact me_join h hv
  | strip => exact me_strip h hv
  | split => exact me_split h hv
  | upper => exact me_upper h hv
  | count => exact me_count h hv
  | get => exact me_get h hv
end
end
end Mine

end
section
open PySem PySem.W PyProof.Rows PySem.Calls
open PySem.SeqAt PySem.SeqRoads2
set_option Elab.async false
set_option autoImplicit false
namespace Mine

section
variable {M : Model} {A : Around} {env : Env} {s : Shared}
theorem starEach_cons {x : PySem.Expr} {r : List PySem.Expr} (h : noStar (x :: r) = true) : starEach (x :: r) env = (false, eval x env) :: starEach r env ∧ noStar r = true := by
  cases x <;> first | exact ⟨rfl, h⟩ | exact ft h
theorem noStar_any {pos : Pos} : ∀ {xs : List PySem.Expr}, noStar xs = true → (backTo pos (starEach xs env)).any (·.1) = false
  | [], _ => rfl
  | x :: r, h => by
    obtain ⟨e, hr⟩ := starEach_cons (env := env) h
    rw [e]
    show ((false, _) :: backTo pos (starEach r env)).any (·.1) = false
    rw [List.any_cons, noStar_any hr]; rfl
theorem noStar_all {pos : Pos} : ∀ {xs : List PySem.Expr}, noStar xs = true → (backTo pos (starEach xs env)).all (fun x => !x.1) = true
  | [], _ => rfl
  | x :: r, h => by
    obtain ⟨e, hr⟩ := starEach_cons (env := env) h
    rw [e]
    show ((false, _) :: backTo pos (starEach r env)).all (fun x => !x.1) = true
    rw [List.all_cons, noStar_all hr]; rfl
theorem args_ok {xs : List PySem.Expr} {pos : Pos} {f : Value} {Q : Args → Shared → Prop} {E : Value → Shared → Prop} (hs : noStar xs = true) (h : wpAny M A (spliced (backTo pos (starEach xs env))) (fun vs s' => Q ⟨vs, []⟩ s') E s) :
    wpAny M A (evalArgs f true (backTo pos (starEach xs env)) []) Q E s := by
  rcases xs with _ | ⟨x, r⟩
  ·
    unfold evalArgs
    show wpAny M A (spliced [] >>= _) Q E s
    refine wpAny_bind (wpAny_mono (show wpAny M A (spliced []) (fun vs s' => Q ⟨vs, []⟩ s') E s from h) (fun vs s' h' => ?_) fun _ _ e => e)
    refine wpAny_bind (wpAny_pure ?_)
    refine wpAny_holding ?_
    exact wpAny_bind (wpAny_pure (wpAny_bind (wpAny_pure (wpAny_pure h'))))
  ·
    obtain ⟨e, hr⟩ := starEach_cons (env := env) hs
    rw [e] at h ⊢
    exact Calls.evalArgs_plain h

theorem or_l {a b : Bool} (h : a = true) : (a || b) = true := by rw [h]; rfl
theorem attributeBase_eq {o : PySem.Expr} {name : Str} (h : notSuper o = true) : attributeBase o name env (eval o env) = eval o env := by
  replace h := or_t h
  rcases h with h | h
  · replace h := any3_e h
    induction h with | mk _ _ _ _ => rfl
  replace h := or_t h
  rcases h with h | h
  · replace h := any2_e h
    induction h with | mk _ _ _ => rfl
  replace h := or_t h
  rcases h with h | h
  · replace h := any3_e h
    induction h with | mk _ _ _ _ => rfl
  replace h := any3_e h
  induction h with | mk f as pos h =>
  replace h := any2_e h
  induction h with | mk id p h =>
  rcases as with _ | ⟨_, _⟩
  · exact if_pos (or_l (or_l (or_l (by rw [bne, seq_beq, h]))))
  · rfl
end

section
variable {prog : Program} {w : World} {A : Around} {s : Shared} {env : Env} {hB : Heap} {K : Frag} {Q E : Value → Shared → Prop} {x : Str} {pos : Pos}

theorem load_ok {v : Value} (l : Loads env s.heap x v) (hf : env.scope.kind = .function) (hd : nameOk x = true) (h : Q v s) : wpAny (model prog w) A (eval (.Name x pos) env) Q E s := by
  replace hd := nameOk_d hd
  obtain ⟨d1, d2⟩ := hd
  induction l with
  | loc m k n q => exact wpAny_Name (wpAny_loadName_local hf k n q h) d1
  | cell c k n q =>
    rcases k with k | k
    · exact wpAny_Name (wpAny_loadName_cell hf k n q h) d1
    · exact wpAny_Name (wpAny_loadName_free hf k n q h d2) d1

theorem glob_ok {v : Value} (B : Base hB K) (C : Ext hB s.heap) (hf : env.scope.kind = .function) (hg : env.globals = mainGlobals) (hx : env.kindOf x = some .globalImplicit) (hd : nameOk x = true)
    (e : nsIn K mainGlobals x = some (some v)) (h : Q v s) : wpAny (model prog w) A (eval (.Name x pos) env) Q E s := by
  obtain ⟨mg, G⟩ := B.g
  exact Name_function_global hf hx (loadGlobal_global (env := env) (mg := mg) (by rw [hg]; exact G.keeps C) (mg_of B.kin G e) h) (nameOk_d hd).1
theorem built_ok {v : Value} (B : Base hB K) (C : Ext hB s.heap) (hf : env.scope.kind = .function) (hg : env.globals = mainGlobals) (hb : env.builtins = builtinsNs) (hx : env.kindOf x = some .globalImplicit) (hd : nameOk x = true)
    (e : nsIn K mainGlobals x = some none) (hv : bootBuiltins x = some v) (hn : x ≠ "__name__") (h : Q v s) : wpAny (model prog w) A (eval (.Name x pos) env) Q E s := by
  obtain ⟨mg, G⟩ := B.g
  obtain ⟨mb, Gb, hbb⟩ := B.b
  exact Name_function_global hf hx (loadGlobal_builtin (env := env) (mg := mg) (mb := mb) (by rw [hg]; exact G.keeps C) (mg_none_of B.kin G e) (by rw [hb]; exact Gb.keeps C) ((hbb x hn).trans hv) h) (nameOk_d hd).1

theorem biBoot : ∀ b : Bi, bootBuiltins (biName b) = some (biVal b) := by
  intro b
  cases b <;> decide +kernel
theorem biNot : ∀ b : Bi, biName b ≠ "__name__" := by
  intro b e
  have : seq (biName b) "__name__" = true := by rw [← seq_beq]; simpa using e
  cases b <;> revert this <;> decide +kernel
end

section
variable {prog : Program} {w : World} {A : Around} {s : Shared} {env : Env} {xs : List PySem.Expr} {pos : Pos} {Q E : Value → Shared → Prop}
theorem callW_ok {f : Value} {o : Obj} {fd : FuncData} {a : Addr} {first : List Value} (hs : noStar xs = true)
    (h : wpAny (model prog w) A (spliced (backTo pos (starEach xs env))) (fun vs s₁ => (s₁.heap.get? a = some o ∧ o.data = .func fd) ∧ wpAny (model prog w) A (call (.ref a) vs) Q E s₁) E s) :
    wpAny (model prog w) A (callWith pos (.ref a) [] (backTo pos (starEach xs env)) []) Q E s :=
  Calls.callWith_function (args_ok hs (wpAny_mono h (fun vs s₁ h₁ => h₁) fun _ _ e => e))
theorem callB_ok {f : Value} {first : List Value} (hf : (∃ id, f = .builtin id) ∨ ∃ T, f = .type T) (hs : noStar xs = true)
    (h : wpAny (model prog w) A (spliced (backTo pos (starEach xs env))) (fun vs s₁ => wpAny (model prog w) A (call f (first ++ vs)) Q E s₁) E s) :
    wpAny (model prog w) A (callWith pos f first (backTo pos (starEach xs env)) []) Q E s := by
  rcases hf with ⟨id, rfl⟩ | ⟨T, rfl⟩
  · exact Calls.callWith_builtin (noStar_any hs) (args_ok hs (wpAny_mono h (fun vs s₁ h₁ => h₁) fun _ _ e => e))
  · exact PySem.callWith_type (noStar_any hs) (args_ok hs (wpAny_mono h (fun vs s₁ h₁ => h₁) fun _ _ e => e))
theorem biVal_kind (b : Bi) : (∃ id, biVal b = .builtin id) ∨ ∃ T, biVal b = .type T := by
  cases b <;> first | exact .inl ⟨_, rfl⟩ | exact .inr ⟨_, rfl⟩
end
end Mine

end
section
open PySem PySem.W PyProof.Rows PySem.Calls
open PySem.SeqAt PySem.SeqRoads2
set_option Elab.async false
set_option autoImplicit false
namespace Mine
theorem not_sys {h : Heap} {a : Addr} (hB' : ∃ mg, h.Ns mainGlobals mg) (hf : a = h.objs.size) : a ≠ sysModules := by
  obtain ⟨m, hm⟩ := hB'
  have := hm.lt
  intro e
  rw [← hf, e] at this
  unfold mainGlobals sysModules at this
  exact absurd this (by decide)
section
variable {prog : Program} {w : World} {A : Around} {s : Shared}
theorem int_key {i : Int} {t : Tok} : (PySem.intKind prog w).is i (.int i t) = true := by simp [PySem.intKind, Value.isInt]
theorem dict_one {env : Env} {a b : Int} {x1 x2 : Nat} {p1 p2 dp : Pos} {Q E : Value → Shared → Prop}
    (h : ∀ h' tk t, h'.DictOf (PySem.intKind prog w) s.heap.objs.size [(a, Value.int b t)] → Ext s.heap h' → Q (.ref s.heap.objs.size) { s with heap := h', toks := tk }) :
    wpAny (model prog w) A (eval (.Dict [some (.Constant (.int a) x1 p1)] [.Constant (.int b) x2 p2] dp) env) Q E s := by
  refine wpAny_Dict_walk (knd := PySem.intKind prog w) (by rfl) (by rfl) (by simp) (by simp) ?_
  refine pairTrees_cons_walk (wpAny_Constant_int (wpAny_Constant_int (pairTrees_nil_walk ?_)))
  refine ⟨[(a, .int b _)], ⟨int_key, rfl, trivial⟩, Heap.DictOf.new _, fun h' hd' sb => ?_⟩
  refine h h' _ _ hd' fun c o e => ?_
  have e' := ext_push s.heap { cls := .type "dict", data := .dict #[] } c o e
  rw [sb.2 c (fun q => by rw [q, fresh_none] at e; cases e)]
  exact e'
theorem dget_ok {env : Env} {a v0 : Int} {x1 x2 : Nat} {p1 p2 dp apos pos : Pos} {i d : PySem.Expr} {name : Str} {E Q : Value → Shared → Prop} (hg : ∃ mg, s.heap.Ns mainGlobals mg) (hn : seq name "get" = true) (hline : (apos.endLine == pos.line) = true) (hs : noStar [i, d] = true)
    (h : ∀ s₁, Keeps s s₁ → wpAny (model prog w) A (eval i env) (fun x s₂ => ∃ n, Keeps s₁ s₂ ∧ Sc.of x = some (.int n) ∧ wpAny (model prog w) A (eval d env) (fun y s₃ => Keeps s₂ s₃ ∧ ∀ s₄, Keeps s₃ s₄ → (∀ v t, [(a, v0)].lookup n = some v → Q (.int v t) s₄) ∧ ([(a, v0)].lookup n = none → Q y s₄)) E s₂) E s₁) :
    wpAny (model prog w) A (eval (.Call (.Attribute (.Dict [some (.Constant (.int a) x1 p1)] [.Constant (.int v0) x2 p2] dp) name apos) [i, d] [] pos) env) Q E s := by
  have hname := seq_eq hn
  subst hname
  have hsys := not_sys hg rfl
  have h0 : attributeBase (.Dict [some (.Constant (.int a) x1 p1)] [.Constant (.int v0) x2 p2] dp) (Str.ofString "get") env (eval (.Dict [some (.Constant (.int a) x1 p1)] [.Constant (.int v0) x2 p2] dp) env) = _ := rfl
  refine @PySem.wpAny_Call_method_late prog w A E s env (.Dict [some (.Constant (.int a) x1 p1)] [.Constant (.int v0) x2 p2] dp) (Str.ofString "get") apos pos [i, d] _ Q h0 ?_ hline rfl ?_
  · rw [noStar_all hs]; rfl
  · refine dict_one fun h' tk t' hd' hx => ?_
    refine ⟨"dict", "dict.get", F.plainAttrs_dict, F.slot_dict_get, F.type_dict_get, hd'.typeIs, hd'.mapOf.noDict, ?_⟩
    refine callB_ok (.inl ⟨_, rfl⟩) hs ?_
    obtain ⟨e1, hs2⟩ := starEach_cons (env := env) hs
    obtain ⟨e2, _⟩ := starEach_cons (env := env) hs2
    rw [e1, e2]
    refine Calls.spliced_cons (wpAny_mono (h _ (Keeps.mk' hx)) (fun xv s₂ h₂ => ?_) fun _ _ e => e)
    obtain ⟨n, k₂, hxv, h₂⟩ := h₂
    replace hxv := of_int hxv
    obtain ⟨t, rfl⟩ := hxv
    refine Calls.spliced_cons (wpAny_mono h₂ (fun yv s₃ h₃ => ?_) fun _ _ e => e)
    obtain ⟨k₃, hq⟩ := h₃
    refine Calls.spliced_nil ?_
    obtain ⟨o, es, ep, ho, hr⟩ := hd'
    have hd₃ : s₃.heap.DictOf (PySem.intKind prog w) s.heap.objs.size [(a, .int v0 t')] := ⟨o, es, ep, Keeps.ext k₃ _ _ (Keeps.ext k₂ _ _ ho), hr⟩
    refine call_meetsIn F.slot_dict_get hd₃.typeIs F.entry_dict_get (F.args_dict_get_3 _ _ _) (meets_dict_get_default (PySem.intKind prog w) _ (key := .int n t) (k := n) int_key (by simpa using hsys) yv) ⟨_, hd₃.mapOf, ?_⟩
    obtain ⟨q1, q2⟩ := hq { s₃ with toks := s₃.toks + 1 } (Keeps.tk _ _)
    have ev : valueAt [(a, Value.int v0 t')] n = if a = n then some (.int v0 t') else none := by
      simp [valueAt, List.find?_cons]
      split <;> simp_all
    rw [ev]
    by_cases han : a = n
    · rw [if_pos han]
      exact q1 v0 _ (by rw [han]; simp)
    · rw [if_neg han]
      have hna : (n == a) = false := beq_eq_false_iff_ne.mpr fun q => han q.symm
      exact q2 (by simp [List.lookup_cons, hna])
end
end Mine

end
section
open PySem PySem.W PyProof.Rows PySem.Calls
open PySem.SeqAt PySem.SeqRoads2
set_option Elab.async false
set_option autoImplicit false
namespace Mine

theorem lookup_map {α β : Type} [BEq α] [LawfulBEq α] {γ : Type} (g : α → β → γ) (x : α) : ∀ l : List (α × β), (l.map fun y => (y.1, g y.1 y.2)).lookup x = (l.lookup x).map (g x)
  | [] => rfl
  | (n, k) :: r => by
    rw [List.map_cons, List.lookup_cons, List.lookup_cons]
    cases h : x == n with
    | true => have := eq_of_beq h; subst this; simp
    | false => simp [lookup_map g x r]

noncomputable def relK (env : Env) (n : Str) (k : NameKind) : NameKind := if (k == .free && env.scope.kind == .function && env.kindOf n == some .cell) = true then .cell else k
theorem relabel_lookup (scope : Scope) (env : Env) (x : Str) : (relabel scope env).names.lookup x = (scope.names.lookup x).map (relK env x) := by
  rw [← lookup_map (relK env) x scope.names]
  unfold relabel
  congr 1
  apply List.map_congr_left
  rintro ⟨n, k⟩ _
  simp only [relK]
  split <;> rfl

section
variable {env : Env}
theorem closure_go (f : Str × NameKind → List (Str × Addr) → Sem (ForInStep (List (Str × Addr))))
    (hf : ∀ name kind cs, f (name, kind) cs = if kind == .free then (do let a ← cellOf env name; pure (.yield ((name, a) :: cs))) else pure (.yield cs)) :
    ∀ (names : List (Str × NameKind)) (acc : List (Str × Addr)), (∀ y, (y, NameKind.free) ∈ names → ∃ c, env.cells.lookup y = some c) →
      ∃ acc', forIn names acc f = pure acc' ∧ ∀ y, ((y, NameKind.free) ∈ names ∨ acc.lookup y = env.cells.lookup y) → acc'.lookup y = env.cells.lookup y
  | [], acc, _ => ⟨acc, by rw [List.forIn_nil], fun y h => by
      rcases h with h | h
      · cases h
      · exact h⟩
  | (n, k) :: r, acc, h => by
    rw [List.forIn_cons, hf]
    by_cases hk : k = .free
    · subst hk
      obtain ⟨c, hc⟩ := h n List.mem_cons_self
      obtain ⟨acc', e, hl⟩ := closure_go f hf r ((n, c) :: acc) fun y hy => h y (List.mem_cons_of_mem _ hy)
      refine ⟨acc', ?_, fun y hy => hl y ?_⟩
      · have : cellOf env n = pure c := by unfold cellOf; rw [hc]
        simp only [beq_self_eq_true, if_true, this, pure_bind]
        exact e
      · by_cases hyn : y = n
        · subst hyn; right; rw [List.lookup_cons]; simp [hc]
        · rcases hy with hy | hy
          · replace hy := List.mem_cons.mp hy
            rcases hy with hy | hy
            · cases hy; exact absurd rfl hyn
            · exact .inl hy
          · right; rw [List.lookup_cons]
            have : (y == n) = false := beq_eq_false_iff_ne.mpr hyn
            rw [this]; exact hy
    · obtain ⟨acc', e, hl⟩ := closure_go f hf r acc fun y hy => h y (List.mem_cons_of_mem _ hy)
      refine ⟨acc', ?_, fun y hy => hl y ?_⟩
      · have : (k == NameKind.free) = false := beq_eq_false_iff_ne.mpr hk
        simp only [this, Bool.false_eq_true, if_false, pure_bind]
        exact e
      · rcases hy with hy | hy
        · replace hy := List.mem_cons.mp hy
          rcases hy with hy | hy
          · cases hy; exact absurd rfl hk
          · exact .inl hy
        · exact .inr hy
theorem closure_ok (scope : Scope) (h : ∀ y, (y, NameKind.free) ∈ scope.names → ∃ c, env.cells.lookup y = some c) :
    ∃ cl, closureFor scope env = pure cl ∧ ∀ y, (y, NameKind.free) ∈ scope.names → cl.lookup y = env.cells.lookup y := by
  obtain ⟨acc', e, hl⟩ := closure_go (env := env) (fun x cs => if x.2 == NameKind.free then (do let a ← cellOf env x.1; pure (.yield ((x.1, a) :: cs))) else pure (.yield cs)) (fun _ _ _ => rfl) scope.names [] h
  have q : closureFor scope env = (forIn scope.names [] (fun (x : Str × NameKind) (cs : List (Str × Addr)) => if x.2 == NameKind.free then (do let a ← cellOf env x.1; pure (ForInStep.yield ((x.1, a) :: cs))) else pure (.yield cs)) >>= fun cs => pure cs) := rfl
  exact ⟨acc', by rw [q, e]; rfl, fun y hy => hl y (.inl hy)⟩
end

theorem mem_of_lookup' {l : Nms} {x : Str} {k : NameKind} (h : l.lookup x = some k) : (x, k) ∈ l := PySem.mem_of_lookup h

structure CompOk (nm nm2 : Nms) (x : Str) (k : ScopeKind) : Prop where
  kind : k = .function
  noCell : ∀ y ∈ nm2, y.2 ≠ .cell
  locals : ∀ y ∈ nm2, y.2 = .local → nm2.lookup y.1 = some .local
  x : nm2.lookup x = some .local
  free : ∀ y, (y, NameKind.free) ∈ nm2 → nm.lookup y = some .cell
theorem compOk_of {nm nm2 : Nms} {x : Str} {k : ScopeKind} (h : compScopeOk nm nm2 x k = true) : CompOk nm nm2 x k := by
  simp only [compScopeOk, Bool.and_eq_true, List.all_eq_true, Bool.or_eq_true, bne_iff_ne, ne_eq, beq_iff_eq] at h
  obtain ⟨⟨⟨⟨h1, h2⟩, h3⟩, h4⟩, h5⟩ := h
  exact ⟨h1, h2, fun y hy hl => kdIs_eq ((h3 y hy).resolve_left (fun q => q hl)), kdIs_eq h4, fun y hy => kdIs_eq ((h5 _ hy).resolve_left (fun q => q rfl))⟩

theorem innerSl_get {sl : Sls} {nm2 : Nms} {c : Nat} {x y : Str} {i : Nat} (h : (innerSl sl nm2 c x)[i]? = some (some y)) : (i = c ∧ y = x) ∨ (i ≠ c ∧ sl[i]? = some (some y) ∧ nm2.lookup y = some .free) := by
  unfold innerSl at h
  by_cases hi : i = c
  · subst hi
    rw [List.getElem?_set_self'] at h
    have : ∀ o : Option (Option Str), Function.const (Option Str) (some x) <$> o = some (some y) → y = x := by
      intro o h
      induction o with
      | none => cases h
      | some o => simp at h; exact h.symm
    exact .inl ⟨rfl, this _ h⟩
  · rw [List.getElem?_set_ne (Ne.symm hi), List.getElem?_map] at h
    right
    refine ⟨hi, ?_⟩
    cases q : sl[i]? with
    | none => rw [q] at h; cases h
    | some o =>
      rw [q] at h
      simp only [Option.map_some, Option.some.injEq] at h
      split at h
      · split at h
        · cases h
          rename_i hk
          exact ⟨rfl, kdIs_eq hk⟩
        · cases h
      · cases h

section
variable {prog : Program} {w : World} {hB : Heap} {nm : Nms} {sl : Sls} {ρ : List Slot} {Wo W : List Addr} {env : Env}

theorem inner_cx {h h' : Heap} {scope : Scope} {x : Str} {c : Nat} {cl : List (Str × Addr)} {C : Addr} {m : Str → Option Value} {v : Value} {q : Sc}
    (X : Cx prog w hB nm sl ρ Wo W env h) (O : CompOk nm scope.names x scope.kind) (hcl : ∀ y, (y, NameKind.free) ∈ scope.names → cl.lookup y = env.cells.lookup y) (e : Ext h h') (hc : c < sl.length)
    (hn : h'.Ns C m) (hm : m x = some v) (hv : Sc.of v = some q) :
    Cx prog w hB scope.names (innerSl sl scope.names c x) (ρ.set c (.val (.sc q))) Wo W (compEnvC scope cl C env) h' where
  base := X.base.trans e
  live := X.live.ext e
  new := X.new
  fn := O.kind
  gl := X.gl
  bl := X.bl
  kind := fun y k hy hk => by
    show (relabel scope env).names.lookup y = some k
    rw [relabel_lookup, hy]
    simp only [Option.map_some, relK]
    have : (k == NameKind.free) = false := beq_eq_false_iff_ne.mpr hk
    rw [this]; rfl
  kindF := fun y hy => by
    show (relabel scope env).names.lookup y = some .free ∨ (relabel scope env).names.lookup y = some .cell
    rw [relabel_lookup, hy]
    simp only [Option.map_some, relK]
    split
    · exact .inr rfl
    · exact .inl rfl
  cells := fun y hy => absurd rfl (O.noCell _ (mem_of_lookup' hy))
  len := by unfold innerSl; simp [X.len]
  vars := fun i y sv h1 h2 => by
    replace h1 := innerSl_get h1
    rcases h1 with ⟨rfl, rfl⟩ | ⟨hi, hs, hf⟩
    · rw [List.getElem?_set_self (by rw [← X.len]; exact hc)] at h2
      cases h2
      exact ⟨v, .loc m (by show (relabel scope env).names.lookup y = _; rw [relabel_lookup, O.x]; rfl) hn hm, hv⟩
    · rw [List.getElem?_set_ne (Ne.symm hi)] at h2
      have := X.vars i y sv hs h2
      have hmem := mem_of_lookup' hf
      have hk : env.kindOf y = some .cell := X.kind y .cell (O.free y hmem) (by decide)
      have conv : ∀ u, Loads env h y u → Loads (compEnvC scope cl C env) h' y u := by
        intro u l
        induction l with
        | loc m' k' n' q' => rw [hk] at k'; cases k'
        | cell c' k' n' q' =>
          refine .cell c' ?_ (by show cl.lookup y = _; rw [hcl y hmem]; exact n') (q'.keeps e)
          show (relabel scope env).names.lookup y = some .cell ∨ (relabel scope env).names.lookup y = some .free
          rw [relabel_lookup, hf]
          simp only [Option.map_some, relK]
          split
          · exact .inl rfl
          · exact .inr rfl
      induction sv with
      | un => trivial
      | val p => obtain ⟨u, l, r⟩ := this; exact ⟨u, conv u l, r.ext e⟩
      | own p => obtain ⟨a, l, ha, r⟩ := this; exact ⟨a, conv _ l, ha, r.ext e⟩
end
end Mine

end
section
open PySem PySem.W PyProof.Rows PySem.Calls
open PySem.SeqAt PySem.SeqRoads2
set_option Elab.async false
set_option autoImplicit false
namespace Mine

noncomputable def tOf (t : Sc → Option Bool) (v : Value) : Bool := match Sc.of v with
  | some q => (t q).getD false
  | none => false
noncomputable def fRel (f : Sc → Option Sc) (v y : Value) : Prop := ∃ q r, Sc.of v = some q ∧ f q = some r ∧ Sc.of y = some r
theorem compGo_ok {t : Sc → Option Bool} {f : Sc → Option Sc} : ∀ {xs ys : List Sc}, compGo t f xs = some ys →
    (∀ q ∈ xs, ∃ b, t q = some b ∧ (b = true → ∃ y, f q = some y)) ∧ (∀ (vs : List Value) (us : List Value), vs.map Sc.of = xs.map some →
      Paired (fRel f) (vs.filter (tOf t)) us → us.map Sc.of = ys.map some) ∧ ys.length ≤ xs.length := by
  intro xs
  induction xs with
  | nil =>
    intro ys h
    cases h
    refine ⟨fun _ hq => (nomatch hq), fun vs us hv hp => ?_, Nat.le_refl _⟩
    have : vs = [] := by simpa using hv
    subst this
    rw [paired_nil hp]; rfl
  | cons x r ih =>
    intro ys h
    simp only [compGo, Option.bind_eq_some_iff] at h
    obtain ⟨b, hb, h⟩ := h
    induction b with
    | false =>
      simp only [Bool.false_eq_true, if_false] at h
      replace h := ih h
      obtain ⟨i1, i2, i3⟩ := h
      refine ⟨fun q hq => ?_, fun vs us hv hp => ?_, Nat.le_succ_of_le i3⟩
      · replace hq := List.mem_cons.mp hq
        rcases hq with rfl | hq
        · exact ⟨false, hb, fun e => nomatch e⟩
        · exact i1 q hq
      ·
        rcases vs with _ | ⟨v, vs⟩
        ·
          cases hv
        ·
          simp only [List.map_cons, List.cons.injEq] at hv
          rw [List.filter_cons] at hp
          simp only [tOf, hv.1, hb, Option.getD_some, Bool.false_eq_true, if_false] at hp
          exact i2 vs us hv.2 hp
    | true =>
      simp only [if_true, Option.bind_eq_some_iff, Option.map_eq_some_iff] at h
      obtain ⟨y, hy, zs, hz, rfl⟩ := h
      replace hz := ih hz
      obtain ⟨i1, i2, i3⟩ := hz
      refine ⟨fun q hq => ?_, fun vs us hv hp => ?_, Nat.succ_le_succ i3⟩
      · replace hq := List.mem_cons.mp hq
        rcases hq with rfl | hq
        · exact ⟨true, hb, fun _ => ⟨y, hy⟩⟩
        · exact i1 q hq
      ·
        rcases vs with _ | ⟨v, vs⟩
        ·
          cases hv
        ·
          simp only [List.map_cons, List.cons.injEq] at hv
          rw [List.filter_cons] at hp
          simp only [tOf, hv.1, hb, Option.getD_some, if_true] at hp
          replace hp := paired_cons hp
          obtain ⟨u, us', rfl, ⟨q, r', hq, hr, hu⟩, hp⟩ := hp
          rw [hv.1] at hq; cases hq
          rw [hy] at hr; cases hr
          rw [List.map_cons, List.map_cons, hu, i2 vs us' hv.2 hp]

section
variable {prog : Program} {w : World} {A : Around} {s : Shared} {hB : Heap} {nm : Nms} {sl : Sls} {ρ : List Slot} {Wo W : List Addr} {env : Env}

/-- what the iterating asks -/
theorem folded_ok {iter : PySem.Expr} (h : notSet iter = true) (x : Value) : foldedSetIterable iter env x = pure x := by
  cases iter <;> first | rfl | cases h

structure CompHyp (prog : Program) (w : World) (A : Around) (hB : Heap) (nm : Nms) (sl : Sls) (ρ : List Slot) (Wo W : List Addr) (env : Env) (s : Shared) (x : Str) (c : Nat) (elt iter : PySem.Expr) (ifs : List PySem.Expr) (scope : Scope)
    (p : PV) (xs ys : List Sc) (t : Sc → Option Bool) (f : Sc → Option Sc) : Prop where
  X : Cx prog w hB nm sl ρ Wo W env s.heap
  O : CompOk nm scope.names x scope.kind
  hset : notSet iter = true
  hA : A.handled = none
  hc : c < sl.length
  it : ∀ E, wpAny (model prog w) A (eval iter env) (fun v s' => Keeps s s' ∧ Rep prog w Wo s'.heap p v) E s
  hxs : items p = some xs
  len : xs.length ≤ lim
  go : compGo t f xs = some ys
  ht : ∀ q b env' s' E, t q = some b → Cx prog w hB scope.names (innerSl sl scope.names c x) (ρ.set c (.val (.sc q))) Wo W env' s'.heap →
    wpAny (model prog w) A (forIn ifs true fun c r => if r = true then do let ok ← isTrue c env' (eval c env'); pure (ForInStep.yield ok) else pure (ForInStep.yield r)) (fun ok s'' => ok = b ∧ Keeps s' s'') E s'
  hf : ∀ q y env' s' E, f q = some y → Cx prog w hB scope.names (innerSl sl scope.names c x) (ρ.set c (.val (.sc q))) Wo W env' s'.heap →
    wpAny (model prog w) A (eval elt env') (fun v s'' => Keeps s' s'' ∧ Sc.of v = some y) E s'

theorem items_of {P : Nat → Value → Prop} {xs : List Sc} {vs : List Value} (hP : ∀ i v, P i v → ∃ c, xs[i]? = some c ∧ Sc.of v = some c) (hl : vs.length = xs.length) (hv : ∀ (j : Nat) v, vs[j]? = some v → P j v) : vs.map Sc.of = xs.map some := by
  apply List.ext_getElem?
  intro i
  rw [List.getElem?_map, List.getElem?_map]
  cases q : vs[i]? with
  | none =>
    have : xs[i]? = none := by rw [List.getElem?_eq_none_iff] at q ⊢; omega
    rw [this]; rfl
  | some v =>
    obtain ⟨c, hc, hs⟩ := hP i v (hv i v q)
    rw [hc]; simp [hs]

theorem comp_block {x : Str} {c : Nat} {elt iter : PySem.Expr} {ifs : List PySem.Expr} {scope : Scope} {p : PV} {xs ys : List Sc} {t : Sc → Option Bool} {f : Sc → Option Sc}
    (H : CompHyp prog w A hB nm sl ρ Wo W env s x c elt iter ifs scope p xs ys t f) {cl : List (Str × Addr)} (hcl : ∀ y, (y, NameKind.free) ∈ scope.names → cl.lookup y = env.cells.lookup y) {R : Value → Shared → Prop} {E : Value → Shared → Prop}
    (hR : ∀ (I D : Addr) (s₁ s₂ : Shared) (h' : Heap) (tk : Nat) (us : Array Value), Keeps s s₁ → Keeps s₁ s₂ → s₁.heap.get? I = none → s₂.heap.get? D = none → h'.PlainList D us → us.toList.map Sc.of = ys.map some →
      (∀ b o, b ≠ I → s₂.heap.get? b = some o → h'.get? b = some o) → R (.ref D) { s₂ with heap := h', toks := tk }) :
    wpAny (model prog w) A (eval iter env) (fun xv s₁ => wpAny (model prog w) A (pyIter xv) (fun it s₂ => ∃ I fp wr n P St, it = .ref I ∧ Walks prog w A I fp wr n P St ∧ n ≤ sizeLine ∧ St 0 s₂.heap ∧ (∀ b ∈ fp, b < s₂.heap.objs.size) ∧
      QuietOnC prog w A env scope cl x ifs elt wr P (tOf t) (fRel f) s₂ ∧
      (∀ D h' tk ys (vs : List Value), s₂.heap.get? D = none → h'.IsList D ys → h'.PlainList D ys → vs.length = n → (∀ j v, vs[j]? = some v → P j v) →
        Paired (fRel f) (vs.filter (tOf t)) ys.toList →
        (∀ b o, b ∉ wr → s₂.heap.get? b = some o → h'.get? b = some o) → R (.ref D) { s₂ with heap := h', toks := tk })) E s₁) E s := by
  obtain ⟨g1, g2, g3⟩ := compGo_ok H.go
  refine wpAny_mono (H.it E) (fun xv s₁ h₁ => ?_) fun _ _ e => e
  obtain ⟨k₁, r₁⟩ := h₁
  refine wpAny_mono (iter_ok H.hxs r₁) (fun it s₂ h₂ => ?_) fun _ _ e => e
  obtain ⟨k₂, I, fp, P, St, rfl, Wk, hst, hfp, hI, hIo, hfV, hP⟩ := h₂
  have up : ∀ s₃ : Shared, (∀ b o, b ∉ [I] → s₂.heap.get? b = some o → s₃.heap.get? b = some o) → Ext s.heap s₃.heap := fun s₃ hk b o e => by
    have e1 := Keeps.ext k₁ b o e
    refine hk b o (fun hm => ?_) (Keeps.ext k₂ b o e1)
    rw [List.mem_singleton.mp hm, hI] at e1; cases e1
  have hmem : ∀ i v, P i v → ∃ q, q ∈ xs ∧ Sc.of v = some q := fun i v hv => let ⟨q, hq, hs⟩ := hP i v hv; ⟨q, List.mem_of_getElem? hq, hs⟩
  refine ⟨I, fp, [I], xs.length, P, St, rfl, Wk A H.hA, Nat.le_trans H.len lim_le, hst, hfp, ⟨?_, ?_⟩, ?_⟩
  · intro C i v s₃ m₃ E' hC hv hn hm hk htk
    obtain ⟨q, hq, hs⟩ := hmem i v hv
    obtain ⟨b, hb, _⟩ := g1 q hq
    refine wpAny_mono (H.ht q b _ s₃ E' hb (inner_cx H.X H.O hcl (up s₃ hk) H.hc hn hm hs)) (fun ok s₄ h => ?_) fun _ _ e => e
    refine ⟨?_, h.2⟩
    simp only [tOf, hs, hb, Option.getD_some]
    exact h.1
  · intro C i v s₃ m₃ E' hC hv hpv hn hm hk htk
    obtain ⟨q, hq, hs⟩ := hmem i v hv
    obtain ⟨b, hb, hy⟩ := g1 q hq
    simp only [tOf, hs, hb, Option.getD_some] at hpv
    replace hpv := hy hpv
    obtain ⟨y, hy⟩ := hpv
    refine wpAny_mono (H.hf q y _ s₃ E' hy (inner_cx H.X H.O hcl (up s₃ hk) H.hc hn hm hs)) (fun u s₄ h => ?_) fun _ _ e => e
    exact ⟨⟨q, y, hs, hy, h.2⟩, h.1⟩
  · intro D h' tk us vs hD hl hpl hlen hPv hpair hk
    exact hR I D s₁ s₂ h' tk us k₁ k₂ hI hD hpl (g2 vs us.toList (items_of hP hlen hPv) hpair) fun b o hb e => hk b o (fun hm => hb (List.mem_singleton.mp hm)) e

theorem comp_ok {x : Str} {c : Nat} {elt iter : PySem.Expr} {ifs : List PySem.Expr} {scope : Scope} {px pos : Pos} {p : PV} {xs ys : List Sc} {t : Sc → Option Bool} {f : Sc → Option Sc}
    (H : CompHyp prog w A hB nm sl ρ Wo W env s x c elt iter ifs scope p xs ys t f) :
    Mine.Gives (model prog w) A (eval (.ListComp elt [⟨.Name x px, iter, ifs, 0⟩] scope pos) env) s (fun h v => RepL (Wo ++ W) h ys v) := by
  intro E
  obtain ⟨cl, hclos, hcl⟩ := closure_ok (env := env) scope fun y hy => H.X.cells y (H.O.free y hy)
  refine wpAny_ListComp_free _ _ hclos H.O.noCell H.O.kind H.O.locals H.O.x (comp_block (R := fun v s' => Keeps s s' ∧ RepL (Wo ++ W) s'.heap ys v) H hcl fun I D s₁ s₂ h' tk us k₁ k₂ hI hD hpl hu hk => ?_) (folded_ok H.hset)
  have e2 : Ext s₁.heap h' := fun b o e => hk b o (fun q => by rw [q, hI] at e; cases e) (Keeps.ext k₂ b o e)
  obtain ⟨h₂, t₂, rfl, _⟩ := (Keeps.trans k₁ k₂)
  refine ⟨⟨h', tk, rfl, (Keeps.ext k₁).trans e2⟩, D, us, rfl, ?_, hpl, hu, Nat.le_trans (compGo_ok H.go).2.2 H.len⟩
  exact (H.X.live.ext (Keeps.ext (Keeps.trans k₁ k₂))).fresh' hD
end
end Mine

end
section
open PySem PySem.W PyProof.Rows PySem.Calls
open PySem.SeqAt PySem.SeqRoads2
set_option Elab.async false
set_option autoImplicit false
namespace Mine

structure Sys (prog : Program) (w : World) (hB : Heap) (K : Frag) (F : Fns) (G : Gls) (n : Nat) : Prop where
  B : Base hB K
  bi : BisOk K
  fns : FnsOk prog w hB K n F
  gls : GlsOk prog w hB K G

noncomputable abbrev av (t : Bool) (Wo W : List Addr) : List Addr := if t then Wo else Wo ++ W
theorem av_sub {t : Bool} {Wo W : List Addr} {a : Addr} (h : a ∈ av t Wo W) : a ∈ Wo ++ W := by
  induction t with
  | true => exact List.mem_append_left _ h
  | false => exact h

noncomputable def EvP (prog : Program) (w : World) (hB : Heap) (F : Fns) (G : Gls) (n : Nat) (e : E) : Prop :=
  ∀ (x : PySem.Expr) (nm : Nms) (sl : Sls) (ρ : List Slot) (Wo W : List Addr) (env : Env) (A : Around) (s : Shared) (tmp : Bool) (p : PV) (E : Value → Shared → Prop),
    isE nm sl e x = true → ev F G tmp ρ e = some p → Cx prog w hB nm sl ρ Wo W env s.heap → Room n A →
    wpAny (model prog w) A (eval x env) (fun v s' => Keeps s s' ∧ Rep prog w (av tmp Wo W) s'.heap p v) E s
noncomputable def TsP (prog : Program) (w : World) (hB : Heap) (F : Fns) (G : Gls) (n : Nat) (e : E) : Prop :=
  ∀ (x : PySem.Expr) (nm : Nms) (sl : Sls) (ρ : List Slot) (Wo W : List Addr) (env : Env) (A : Around) (s : Shared) (b : Bool) (E : Value → Shared → Prop),
    isE nm sl e x = true → tst F G ρ e = some b → Cx prog w hB nm sl ρ Wo W env s.heap → Room n A →
    wpAny (model prog w) A (isTrue x env (eval x env)) (fun c s' => c = b ∧ Keeps s s') E s
noncomputable def EvsP (prog : Program) (w : World) (hB : Heap) (F : Fns) (G : Gls) (n : Nat) (es : Es) : Prop :=
  ∀ (xs : List PySem.Expr) (nm : Nms) (sl : Sls) (ρ : List Slot) (Wo W : List Addr) (env : Env) (A : Around) (s : Shared) (tmp : Bool) (ps : List PV) (pos : Pos) (E : Value → Shared → Prop),
    isEs nm sl es xs = true → noStar xs = true → evs F G tmp ρ es = some ps → Cx prog w hB nm sl ρ Wo W env s.heap → Room n A →
    wpAny (model prog w) A (spliced (backTo pos (starEach xs env))) (fun vs s' => Keeps s s' ∧ Paired (Rep prog w (av tmp Wo W) s'.heap) ps vs) E s
noncomputable def BoP (prog : Program) (w : World) (hB : Heap) (F : Fns) (G : Gls) (n : Nat) (es : Es) : Prop :=
  ∀ (xs : List PySem.Expr) (nm : Nms) (sl : Sls) (ρ : List Slot) (Wo W : List Addr) (env : Env) (A : Around) (s : Shared) (b : Bool) (pos : Pos) (E : Value → Shared → Prop),
    isEs nm sl es xs = true → Cx prog w hB nm sl ρ Wo W env s.heap → Room n A →
    (andV F G ρ es = some b → wpAny (model prog w) A (boolOp pos .And (evalEach xs env)) (fun v s' => v = .bool b ∧ Keeps s s') E s) ∧
    (orV F G ρ es = some b → wpAny (model prog w) A (boolOp pos .Or (evalEach xs env)) (fun v s' => v = .bool b ∧ Keeps s s') E s)
noncomputable def AlP (prog : Program) (w : World) (hB : Heap) (F : Fns) (G : Gls) (n : Nat) (es : Es) : Prop :=
  ∀ (xs : List PySem.Expr) (nm : Nms) (sl : Sls) (ρ : List Slot) (Wo W : List Addr) (env : Env) (A : Around) (s : Shared) (b : Bool) (E : Value → Shared → Prop),
    isEs nm sl es xs = true → Cx prog w hB nm sl ρ Wo W env s.heap → Room n A →
    (andT F G ρ es = some b → wpAny (model prog w) A (allTrue .And xs env) (fun c s' => c = b ∧ Keeps s s') E s) ∧
    (orT F G ρ es = some b → wpAny (model prog w) A (allTrue .Or xs env) (fun c s' => c = b ∧ Keeps s s') E s) ∧
    (andT F G ρ es = some b → wpAny (model prog w) A (forIn xs true fun c r => if r = true then do let ok ← isTrue c env (eval c env); pure (ForInStep.yield ok) else pure (ForInStep.yield r)) (fun ok s' => ok = b ∧ Keeps s s') E s)

/-! ## an expression, taken apart -/
section
variable (nm : Nms) (sl : Sls)
inductive JBin (o : BOp) (l r : E) : PySem.Expr → Prop
  | mk (a b : PySem.Expr) (pos : Pos) (h1 : isE nm sl l a = true) (h2 : isE nm sl r b = true) : JBin o l r (.BinOp a (bopOf o) b pos)
inductive JCmp (o : COp) (l r : E) : PySem.Expr → Prop
  | mk (a b : PySem.Expr) (pos : Pos) (h0 : notSet b = true) (h1 : isE nm sl l a = true) (h2 : isE nm sl r b = true) : JCmp o l r (.Compare a [copOf o] [b] pos)
inductive JCmp2 (o1 o2 : COp) (a b c : E) : PySem.Expr → Prop
  | mk (x y z : PySem.Expr) (pos : Pos) (h0 : notSet z = true) (h1 : isE nm sl a x = true) (h2 : isE nm sl b y = true) (h3 : isE nm sl c z = true) : JCmp2 o1 o2 a b c (.Compare x [copOf o1, copOf o2] [y, z] pos)
inductive JUn (u : UnaryOp) (e : E) : PySem.Expr → Prop
  | mk (a : PySem.Expr) (pos : Pos) (h : isE nm sl e a = true) : JUn u e (.UnaryOp u a pos)
inductive JBool (b : PySem.BoolOp) (es : Es) : PySem.Expr → Prop
  | mk (vs : List PySem.Expr) (pos : Pos) (h : isEs nm sl es vs = true) : JBool b es (.BoolOp b vs pos)
inductive JIte (t a b : E) : PySem.Expr → Prop
  | mk (x y z : PySem.Expr) (pos : Pos) (h1 : isE nm sl t x = true) (h2 : isE nm sl a y = true) (h3 : isE nm sl b z = true) : JIte t a b (.IfExp x y z pos)
inductive JCall (f : Str) (as : Es) : PySem.Expr → Prop
  | mk (px : Pos) (xs : List PySem.Expr) (pos : Pos) (h1 : nameOk f = true) (h2 : nm.lookup f = some .globalImplicit) (h3 : isEs nm sl as xs = true) (h4 : noStar xs = true) : JCall f as (.Call (.Name f px) xs [] pos)
inductive JMeth (m : Str) (o : E) (as : Es) : PySem.Expr → Prop
  | mk (ob : PySem.Expr) (apos : Pos) (xs : List PySem.Expr) (pos : Pos) (h2 : (apos.endLine == pos.line) = true) (h3 : notSuper ob = true) (h4 : isE nm sl o ob = true) (h5 : isEs nm sl as xs = true) (h6 : noStar xs = true) (h7 : xs.length ≤ 10) :
      JMeth m o as (.Call (.Attribute ob m apos) xs [] pos)
inductive JIdx (o i : E) : PySem.Expr → Prop
  | mk (a b : PySem.Expr) (pos : Pos) (h0 : noSlice b = true) (h1 : isE nm sl o a = true) (h2 : isE nm sl i b = true) : JIdx o i (.Subscript a b pos)
/-- a bound that may lack -/
inductive JB : Option E → Option PySem.Expr → Prop
  | no : JB none none
  | yes (e : E) (x : PySem.Expr) (h : isE nm sl e x = true) : JB (some e) (some x)
inductive JSl (o : E) (a b : Option E) : PySem.Expr → Prop
  | mk (x : PySem.Expr) (lo hi : Option PySem.Expr) (p1 p2 : Pos) (h : isE nm sl o x = true) (h1 : JB nm sl a lo) (h2 : JB nm sl b hi) : JSl o a b (.Subscript x (.Slice lo hi none p2) p1)
end
section
variable {nm : Nms} {sl : Sls} {x : PySem.Expr}
theorem bin_j {o : BOp} {l r : E} (h : isE nm sl (.bin o l r) x = true) : JBin nm sl o l r x := by
  replace h := any4_e h
  induction h with | mk a q b pos g =>
  obtain ⟨h1, h2, h3⟩ := and_t3 g
  exact opIs_eq h1 ▸ ⟨a, b, pos, h2, h3⟩
theorem cmp_j {o : COp} {l r : E} (h : isE nm sl (.cmp o l r) x = true) : JCmp nm sl o l r x := by
  replace h := any4_e h
  induction h with | mk a os bs pos g =>
  replace g := any1_e g
  induction g with | mk q g =>
  replace g := any1_e g
  induction g with | mk b g =>
  obtain ⟨h1, h0, h2, h3⟩ := and_t4 g
  exact copIs_eq h1 ▸ ⟨a, b, pos, h0, h2, h3⟩
theorem cmp2_j {o1 o2 : COp} {a b c : E} (h : isE nm sl (.cmp2 o1 o2 a b c) x = true) : JCmp2 nm sl o1 o2 a b c x := by
  replace h := any4_e h
  induction h with | mk u os bs pos g =>
  replace g := any2_e g
  induction g with | mk q1 q2 g =>
  replace g := any2_e g
  induction g with | mk y z g =>
  obtain ⟨h1, h1', h0, h2, h3, h4⟩ := and_t6 g
  exact copIs_eq h1 ▸ copIs_eq h1' ▸ ⟨u, y, z, pos, h0, h2, h3, h4⟩
theorem un_j {u : UnaryOp} {e : E} (h : (any3 (xUn x) fun q a _ => decide (q = u) && isE nm sl e a) = true) : JUn nm sl u e x := by
  replace h := any3_e h
  induction h with | mk q a pos g => exact of_decide_eq_true (and_t g).1 ▸ ⟨a, pos, (and_t g).2⟩
theorem bool_j {b : PySem.BoolOp} {es : Es} (h : (any3 (xBool x) fun q a _ => decide (q = b) && isEs nm sl es a) = true) : JBool nm sl b es x := by
  replace h := any3_e h
  induction h with | mk q a pos g => exact of_decide_eq_true (and_t g).1 ▸ ⟨a, pos, (and_t g).2⟩
theorem ite_j {t a b : E} (h : isE nm sl (.ite t a b) x = true) : JIte nm sl t a b x := by
  replace h := any4_e h
  induction h with | mk x y z pos g =>
  obtain ⟨h1, h2, h3⟩ := and_t3 g
  exact ⟨x, y, z, pos, h1, h2, h3⟩
theorem call_j {f : Nat} {as : Es} (h : isE nm sl (.call f as) x = true) : JCall nm sl (fnm f) as x := by
  replace h := any3_e h
  induction h with | mk fx xs pos g =>
  replace g := any2_e g
  induction g with | mk y px g =>
  obtain ⟨h1, h2, h3, h4, h5⟩ := and_t5 g
  cases seq_eq h2
  exact ⟨px, xs, pos, h1, kdIs_eq h3, h4, h5⟩
theorem bi_j {b : Bi} {as : Es} (h : isE nm sl (.bi b as) x = true) : JCall nm sl (biName b) as x := by
  replace h := any3_e h
  induction h with | mk fx xs pos g =>
  replace g := any2_e g
  induction g with | mk y px g =>
  obtain ⟨h1, h2, h3, h4, h5, -⟩ := and_t6 g
  cases seq_eq h2
  exact ⟨px, xs, pos, h1, kdIs_eq h3, h4, h5⟩
theorem meth_j {m : Me} {o : E} {as : Es} (h : isE nm sl (.meth m o as) x = true) : JMeth nm sl (meName m) o as x := by
  replace h := any3_e h
  induction h with | mk fx xs pos g =>
  replace g := any3_e g
  induction g with | mk ob n apos g =>
  obtain ⟨h1, h2, h3, h4, h5, h6, h7⟩ := and_t7 g
  cases seq_eq h1
  exact ⟨ob, apos, xs, pos, h2, h3, h4, h5, h6, Nat.le_of_ble_eq_true h7⟩
theorem idx_j {o i : E} (h : isE nm sl (.idx o i) x = true) : JIdx nm sl o i x := by
  replace h := any3_e h
  induction h with | mk ob ix pos g =>
  obtain ⟨h1, h2, h3⟩ := and_t3 g
  exact ⟨ob, ix, pos, h1, h2, h3⟩
theorem sl_j {o : E} {a b : Option E} (h : ∃ f : Option PySem.Expr → Option PySem.Expr → PySem.Expr → Bool, (any3 (xSub x) fun y u _ => any3 (xSlice u) fun lo hi _ => f lo hi y) = true ∧ ∀ lo hi y, f lo hi y = true → isE nm sl o y = true ∧ JB nm sl a lo ∧ JB nm sl b hi) : JSl nm sl o a b x := by
  obtain ⟨f, h, hf⟩ := h
  replace h := any3_e h
  induction h with | mk ob ix p1 g =>
  replace g := any3_e g
  induction g with | mk lo hi p2 g =>
  obtain ⟨h1, h2, h3⟩ := hf _ _ _ g
  exact ⟨ob, lo, hi, p1, p2, h1, h2, h3⟩
theorem sl0_j {o b : E} (h : isE nm sl (.sl0 o b) x = true) : JSl nm sl o none (some b) x := sl_j ⟨fun lo hi y => lo.isNone && hi.any fun hi => isE nm sl o y && isE nm sl b hi, h, fun lo hi y h => by
  obtain ⟨z, rfl, g⟩ := any_some (and_t h).2
  rw [isNone_t (and_t h).1]
  exact ⟨(and_t g).1, .no, .yes _ _ (and_t g).2⟩⟩
theorem sl1_j {o a : E} (h : isE nm sl (.sl1 o a) x = true) : JSl nm sl o (some a) none x := sl_j ⟨fun lo hi y => hi.isNone && lo.any fun lo => isE nm sl o y && isE nm sl a lo, h, fun lo hi y h => by
  obtain ⟨z, rfl, g⟩ := any_some (and_t h).2
  rw [isNone_t (and_t h).1]
  exact ⟨(and_t g).1, .yes _ _ (and_t g).2, .no⟩⟩
theorem sl2_j {o a b : E} (h : isE nm sl (.sl2 o a b) x = true) : JSl nm sl o (some a) (some b) x := sl_j ⟨fun lo hi y => lo.any fun lo => hi.any fun hi => isE nm sl o y && (isE nm sl a lo && isE nm sl b hi), h, fun lo hi y h => by
  obtain ⟨z, rfl, g⟩ := any_some h
  obtain ⟨z', rfl, g⟩ := any_some g
  obtain ⟨h1, h2, h3⟩ := and_t3 g
  exact ⟨h1, .yes _ _ h2, .yes _ _ h3⟩⟩
end
/-! ## what it is worth, taken apart -/
inductive V2 {β : Type} (F : Fns) (G : Gls) (ρ : List Slot) (l r : E) (f : PV → PV → Option β) (y : β) : Prop
  | mk (q q' : PV) (h1 : ev F G true ρ l = some q) (h2 : ev F G true ρ r = some q') (h3 : f q q' = some y)
theorem v2 {β : Type} {F : Fns} {G : Gls} {ρ : List Slot} {l r : E} {f : PV → PV → Option β} {y : β} (h : ((ev F G true ρ l).bind fun p => (ev F G true ρ r).bind fun q => f p q) = some y) : V2 F G ρ l r f y := by
  obtain ⟨q, h1, h⟩ := bind_s h
  obtain ⟨q', h2, h⟩ := bind_s h
  exact ⟨q, q', h1, h2, h⟩
inductive VM (F : Fns) (G : Gls) (ρ : List Slot) (tmp : Bool) (o : E) (as : Es) (f : PV → List PV → Option PV) (y : PV) : Prop
  | mk (q : PV) (ps : List PV) (h1 : ev F G true ρ o = some q) (h2 : evs F G tmp ρ as = some ps) (h3 : f q ps = some y)
theorem vm {F : Fns} {G : Gls} {ρ : List Slot} {tmp : Bool} {o : E} {as : Es} {f : PV → List PV → Option PV} {y : PV} (h : ((ev F G true ρ o).bind fun p => (evs F G tmp ρ as).bind fun q => f p q) = some y) : VM F G ρ tmp o as f y := by
  obtain ⟨q, h1, h⟩ := bind_s h
  obtain ⟨q', h2, h⟩ := bind_s h
  exact ⟨q, q', h1, h2, h⟩

section
variable {prog : Program} {w : World} {hB : Heap} {K : Frag} {F : Fns} {G : Gls} {n : Nat}

theorem EvP.step {e : E} (i : EvP prog w hB F G n e) {x : PySem.Expr} {nm : Nms} {sl : Sls} {ρ : List Slot} {Wo W : List Addr} {env : Env} {A : Around} {s : Shared} {tmp : Bool} {p : PV} {Q E : Value → Shared → Prop}
    (h : isE nm sl e x = true) (he : ev F G tmp ρ e = some p) (C : Cx prog w hB nm sl ρ Wo W env s.heap) (R : Room n A)
    (k : ∀ v s', Keeps s s' → Rep prog w (av tmp Wo W) s'.heap p v → Cx prog w hB nm sl ρ Wo W env s'.heap → Q v s') : wpAny (model prog w) A (eval x env) Q E s :=
  wpAny_mono (i _ _ _ _ _ _ _ _ _ _ _ E h he C R) (fun v s' h => k v s' h.1 h.2 (C.go (Keeps.ext h.1))) fun _ _ e => e
theorem TsP.step {e : E} (i : TsP prog w hB F G n e) {x : PySem.Expr} {nm : Nms} {sl : Sls} {ρ : List Slot} {Wo W : List Addr} {env : Env} {A : Around} {s : Shared} {b : Bool} {Q : Bool → Shared → Prop} {E : Value → Shared → Prop}
    (h : isE nm sl e x = true) (he : tst F G ρ e = some b) (C : Cx prog w hB nm sl ρ Wo W env s.heap) (R : Room n A)
    (k : ∀ s', Keeps s s' → Cx prog w hB nm sl ρ Wo W env s'.heap → Q b s') : wpAny (model prog w) A (isTrue x env (eval x env)) Q E s :=
  wpAny_mono (i _ _ _ _ _ _ _ _ _ _ E h he C R) (fun v s' h => by rw [h.1]; exact k s' h.2 (C.go (Keeps.ext h.2))) fun _ _ e => e
theorem EvsP.step {es : Es} (i : EvsP prog w hB F G n es) {xs : List PySem.Expr} {nm : Nms} {sl : Sls} {ρ : List Slot} {Wo W : List Addr} {env : Env} {A : Around} {s : Shared} {tmp : Bool} {ps : List PV} {pos : Pos} {Q : List Value → Shared → Prop} {E : Value → Shared → Prop}
    (h : isEs nm sl es xs = true) (hs : noStar xs = true) (he : evs F G tmp ρ es = some ps) (C : Cx prog w hB nm sl ρ Wo W env s.heap) (R : Room n A)
    (k : ∀ vs s', Keeps s s' → Paired (Rep prog w (av tmp Wo W) s'.heap) ps vs → Cx prog w hB nm sl ρ Wo W env s'.heap → Q vs s') : wpAny (model prog w) A (spliced (backTo pos (starEach xs env))) Q E s :=
  wpAny_mono (i _ _ _ _ _ _ _ _ _ _ _ _ E h hs he C R) (fun v s' h => k v s' h.1 h.2 (C.go (Keeps.ext h.1))) fun _ _ e => e
theorem Gives.step {A : Around} {t : Sem Value} {s s₀ : Shared} {P : Heap → Value → Prop} {Q E : Value → Shared → Prop} (g : Mine.Gives (model prog w) A t s P) (k₀ : Keeps s₀ s) (k : ∀ v s', Keeps s₀ s' → P s'.heap v → Q v s') : wpAny (model prog w) A t Q E s :=
  wpAny_mono (g E) (fun v s' h => k v s' (Keeps.trans k₀ h.1) h.2) fun _ _ e => e
theorem ev_k (c : Sc) : EvP prog w hB F G n (.k c) := by
  intro x nm sl ρ Wo W env A s tmp p E h he C R
  replace h := any3_e h
  induction h with | mk l k pos h =>
  cases he
  exact litIs_ok h
theorem ev_var (i : Nat) : EvP prog w hB F G n (.var i) := by
  intro x nm sl ρ Wo W env A s tmp p E h he C R
  replace h := any2_e h
  induction h with | mk x px h =>
  replace h := and_t3 h
  obtain ⟨h1, h2, h3⟩ := h
  have hsl := slIs_eq h2
  replace he := one_some he
  rcases he with ⟨q, hq, he⟩ | he
  · cases he
    obtain ⟨v, l, r⟩ := C.vars i _ _ hsl (valS_eq hq)
    exact load_ok l C.fn h1 ⟨Keeps.refl _, r.less fun a => av_sub⟩
  · replace he := iff_some he
    obtain ⟨ht, hq⟩ := he
    obtain ⟨a, l, ha, r⟩ := C.vars i _ _ hsl (ownS_eq hq)
    subst ht
    exact load_ok l C.fn h1 ⟨Keeps.refl _, r⟩
theorem ev_glob (T : Sys prog w hB K F G n) (g : Nat) : EvP prog w hB F G n (.glob g) := by
  intro x nm sl ρ Wo W env A s tmp p E h he C R
  replace h := any2_e h
  induction h with | mk x px h =>
  replace h := and_t3 h
  obtain ⟨h1, h2, h3⟩ := h
  replace h2 := seq_eq h2
  subst h2
  obtain ⟨v, hv, hr⟩ := T.gls g p he
  exact glob_ok T.B C.base C.fn C.gl (C.kind _ _ (kdIs_eq h3) (by decide)) h1 hv ⟨Keeps.refl _, hr _ _ C.base fun a ha => C.new a (av_sub ha)⟩
theorem flt_eq {tmp : Bool} {q p : PV} (h : flt tmp q = some p) : q = p ∧ (tmp = true ∨ ((∀ l, p ≠ .tup l) ∧ ∀ l, p ≠ .lstT l)) := by
  induction tmp with
  | true => cases h; exact ⟨rfl, .inl rfl⟩
  | false =>
    replace h := iff_some h
    obtain ⟨hm, h⟩ := h
    cases h
    exact ⟨rfl, .inr ⟨fun l e => by subst e; exact ft hm, fun l e => by subst e; exact ft hm⟩⟩
theorem fltI_eq {tmp : Bool} {q p : PV} (h : fltI tmp q = some p) : q = p ∧ (tmp = true ∨ ∃ c, p = .sc c) := by
  induction tmp with
  | true => cases h; exact ⟨rfl, .inl rfl⟩
  | false =>
    replace h := onC_last h
    obtain ⟨c, rfl, h⟩ := h
    cases h
    exact ⟨rfl, .inr ⟨c, rfl⟩⟩
theorem notSet_eq {op : CmpOp} {b : PySem.Expr} (h : notSet b = true) : behindInMarks op b = false := by
  cases b <;> first | rfl | exact ft h
theorem Live.av {t : Bool} {Wo W : List Addr} {h : Heap} (x : Live (Wo ++ W) h) : Live (av t Wo W) h := fun a ha => x a (av_sub ha)
theorem ev_bin {o : BOp} {l r : E} (il : EvP prog w hB F G n l) (ir : EvP prog w hB F G n r) : EvP prog w hB F G n (.bin o l r) := by
  intro x nm sl ρ Wo W env A s tmp p E h he C R
  replace h := bin_j h
  induction h with
  | mk a b pos h1 h2 =>
  replace he := v2 he
  obtain ⟨q, q', hq, hq', hb⟩ := he
  replace hb := bind_s hb
  obtain ⟨r', hb, hf⟩ := hb
  replace hf := flt_eq hf
  obtain ⟨rfl, ht⟩ := hf
  refine wpAny_BinOp (il.step h1 hq C R fun a s₁ k₁ r₁ C₁ => ?_)
  refine ir.step h2 hq' C₁ R fun b s₂ k₂ r₂ C₂ => ?_
  refine Gives.step (bop_ok (V := av tmp Wo W) hb C₂.live.av (r₁.ext (Keeps.ext k₂)) r₂ fun l e a ha => ?_) (Keeps.trans k₁ k₂) fun v s₃ k r => ⟨k, r⟩
  rcases ht with rfl | ht
  · exact ha
  · exact absurd e (ht.2 l)
theorem ev_neg {e : E} (i : EvP prog w hB F G n e) : EvP prog w hB F G n (.neg e) := by
  intro x nm sl ρ Wo W env A s tmp p E h he C R
  replace h := un_j h
  induction h with
  | mk a pos h =>
  replace he := bind_s he
  obtain ⟨q, hq, he⟩ := he
  replace he := map_s he
  obtain ⟨j, hj, rfl⟩ := he
  refine wpAny_UnaryOp (i.step h hq C R fun a s₁ k₁ r₁ _ => ?_)
  replace hj := onI_last hj
  obtain ⟨i, rfl, hj⟩ := hj
  cases hj
  obtain ⟨t, rfl⟩ := of_int r₁
  exact PyProof.Rows.neg_int ⟨Keeps.trans k₁ (Keeps.tk _ _), rfl⟩
theorem Room.units {A : Around} (R : Room n A) : A.units < cLine := by have := R.2.2; omega
theorem ev_cmp {o : COp} {l r : E} (il : EvP prog w hB F G n l) (ir : EvP prog w hB F G n r) : EvP prog w hB F G n (.cmp o l r) ∧ TsP prog w hB F G n (.cmp o l r) := by
  have key : ∀ {a b : PySem.Expr} {nm : Nms} {sl : Sls} {ρ : List Slot} {Wo W : List Addr} {env : Env} {A : Around} {s : Shared} {c : Bool} {Q E : Value → Shared → Prop}, isE nm sl l a = true → isE nm sl r b = true → V2 F G ρ l r (cop o) c → Cx prog w hB nm sl ρ Wo W env s.heap → Room n A →
      (∀ s', Keeps s s' → Q (.bool c) s') → wpAny (model prog w) A (eval a env) (fun u s₁ => wpAny (model prog w) A (eval b env) (fun v s₂ => wpAny (model prog w) A (compareOp (copOf o) u v) Q E s₂) E s₁) E s := by
    intro a b nm sl ρ Wo W env A s c Q E h1 h2 he C R hQ
    obtain ⟨q, q', hq, hq', hb⟩ := he
    refine il.step h1 hq C R fun a s₁ k₁ r₁ C₁ => ?_
    refine ir.step h2 hq' C₁ R fun b s₂ k₂ r₂ C₂ => ?_
    exact wpAny_mono (cop_ok hb (r₁.ext (Keeps.ext k₂)) r₂ R.units E) (fun v s₃ h₃ => by rw [h₃.1]; exact hQ s₃ (Keeps.trans (Keeps.trans k₁ k₂) h₃.2)) fun _ _ e => e
  constructor
  · intro x nm sl ρ Wo W env A s tmp p E h he C R
    replace h := cmp_j h
    induction h with
    | mk a b pos h0 h1 h2 =>
    replace he := v2 he
    obtain ⟨q, q', hq, hq', hb⟩ := he
    replace hb := map_s hb
    obtain ⟨c, hb, rfl⟩ := hb
    exact wpAny_Compare1 (key h1 h2 ⟨q, q', hq, hq', hb⟩ C R fun s' k => ⟨k, rfl⟩) (notSet_eq h0)
  · intro x nm sl ρ Wo W env A s c E h he C R
    replace h := cmp_j h
    induction h with
    | mk a b pos h0 h1 h2 => exact wpAny_isTrue_Compare1 (key h1 h2 (v2 he) C R fun s' k => wpAny_truthy_bool ⟨rfl, k⟩) (notSet_eq h0)
inductive V3 (F : Fns) (G : Gls) (ρ : List Slot) (o1 o2 : COp) (a b c : E) (r : Bool) : Prop
  | stop (p q : PV) (h1 : ev F G true ρ a = some p) (h2 : ev F G true ρ b = some q) (h3 : cop o1 p q = some false) (e : r = false)
  | go (p q u : PV) (h1 : ev F G true ρ a = some p) (h2 : ev F G true ρ b = some q) (h3 : cop o1 p q = some true) (h4 : ev F G true ρ c = some u) (h5 : cop o2 q u = some r)
theorem v3 {ρ : List Slot} {o1 o2 : COp} {a b c : E} {β : Type} {f : Bool → β} {y : β} (h : ((ev F G true ρ a).bind fun p => (ev F G true ρ b).bind fun q => (cop o1 p q).bind fun t => if t then (ev F G true ρ c).bind fun r => (cop o2 q r).map f else some (f false)) = some y) :
    ∃ r, V3 F G ρ o1 o2 a b c r ∧ y = f r := by
  obtain ⟨p, h1, g⟩ := bind_s h
  obtain ⟨q, h2, g1⟩ := bind_s g
  obtain ⟨t, h3, g2⟩ := bind_s g1
  induction t with
  | false => exact ⟨false, .stop p q h1 h2 h3 rfl, (Option.some.inj g2).symm⟩
  | true =>
    obtain ⟨u, h4, g3⟩ := bind_s g2
    obtain ⟨r, h5, e⟩ := map_s g3
    exact ⟨r, .go p q u h1 h2 h3 h4 h5, e.symm⟩
theorem ev_cmp2 {o1 o2 : COp} {a b c : E} (ia : EvP prog w hB F G n a) (ib : EvP prog w hB F G n b) (ic : EvP prog w hB F G n c) : EvP prog w hB F G n (.cmp2 o1 o2 a b c) ∧ TsP prog w hB F G n (.cmp2 o1 o2 a b c) := by
  have key : ∀ {x y z : PySem.Expr} {nm : Nms} {sl : Sls} {ρ : List Slot} {Wo W : List Addr} {env : Env} {A : Around} {s : Shared} {r : Bool} {E : Value → Shared → Prop}, isE nm sl a x = true → isE nm sl b y = true → isE nm sl c z = true → V3 F G ρ o1 o2 a b c r → Cx prog w hB nm sl ρ Wo W env s.heap → Room n A →
      wpAny (model prog w) A (eval x env) (fun u s₁ => wpAny (model prog w) A (eval y env) (fun v s₂ => wpAny (model prog w) A (compareOp (copOf o1) u v) (fun cv s₃ => ∃ t, cv = .bool t ∧
      (if t = true then wpAny (model prog w) A (eval z env) (fun zv s₄ => wpAny (model prog w) A (compareOp (copOf o2) v zv) (fun rv s₅ => ∃ q, rv = .bool q ∧ (q = r ∧ Keeps s s₅)) E s₄) E s₃ else (false = r ∧ Keeps s s₃))) E s₂) E s₁) E s := by
    intro x y z nm sl ρ Wo W env A s r E h1 h2 h3 he C R
    induction he with
    | stop p q hp hq ht e =>
      refine ia.step h1 hp C R fun u s₁ k₁ r₁ C₁ => ib.step h2 hq C₁ R fun v s₂ k₂ r₂ C₂ => ?_
      exact wpAny_mono (cop_ok ht (r₁.ext (Keeps.ext k₂)) r₂ R.units E) (fun cv s₃ h₃ => ⟨false, h₃.1, e.symm, Keeps.trans (Keeps.trans k₁ k₂) h₃.2⟩) fun _ _ e => e
    | go p q u hp hq ht hu hc =>
      refine ia.step h1 hp C R fun u s₁ k₁ r₁ C₁ => ib.step h2 hq C₁ R fun v s₂ k₂ r₂ C₂ => ?_
      refine wpAny_mono (cop_ok ht (r₁.ext (Keeps.ext k₂)) r₂ R.units E) (fun cv s₃ h₃ => ⟨true, h₃.1, ?_⟩) fun _ _ e => e
      refine ic.step h3 hu (C₂.go (Keeps.ext h₃.2)) R fun zv s₄ k₄ r₄ C₄ => ?_
      exact wpAny_mono (cop_ok hc (r₂.ext (Keeps.ext (Keeps.trans h₃.2 k₄))) r₄ R.units E) (fun rv s₅ h₅ => ⟨r, h₅.1, rfl, Keeps.trans (Keeps.trans (Keeps.trans k₁ k₂) h₃.2) (Keeps.trans k₄ h₅.2)⟩) fun _ _ e => e
  constructor
  · intro x nm sl ρ Wo W env A s tmp p E h he C R
    replace h := cmp2_j h
    induction h with
    | mk x y z pos h0 h1 h2 h3 =>
    replace he := v3 he
    obtain ⟨r, hr, rfl⟩ := he
    refine wpAny_mono (wp_cmp2 (Q := fun q s' => q = r ∧ Keeps s s') h0 (key h1 h2 h3 hr C R)).1 (fun v s' hv => ?_) fun _ _ e => e
    obtain ⟨q, rfl, rfl, k⟩ := hv
    exact ⟨k, rfl⟩
  · intro x nm sl ρ Wo W env A s r E h he C R
    replace h := cmp2_j h
    induction h with
    | mk x y z pos h0 h1 h2 h3 =>
    have he : ((ev F G true ρ a).bind fun p => (ev F G true ρ b).bind fun q => (cop o1 p q).bind fun t => if t then (ev F G true ρ c).bind fun r => (cop o2 q r).map id else some (id false)) = some r := by
      simp only [Option.map_id, id]; exact he
    obtain ⟨r', hr, e⟩ := v3 he
    replace e : r = r' := e
    subst e
    exact (wp_cmp2 (Q := fun q s' => q = r ∧ Keeps s s') h0 (key h1 h2 h3 hr C R)).2 _
end
end Mine

end
section
open PySem PySem.W PyProof.Rows PySem.Calls
open PySem.SeqAt PySem.SeqRoads2
set_option Elab.async false
set_option autoImplicit false
namespace Mine
section
variable {prog : Program} {w : World} {hB : Heap} {K : Frag} {F : Fns} {G : Gls} {n : Nat}

theorem ev_ite {t a b : E} (it : TsP prog w hB F G n t) (ia : EvP prog w hB F G n a) (ib : EvP prog w hB F G n b) : EvP prog w hB F G n (.ite t a b) := by
  intro x nm sl ρ Wo W env A s tmp p E h he C R
  replace h := ite_j h
  induction h with
  | mk x y z pos h1 h2 h3 =>
  replace he := bind_s he
  obtain ⟨c, hc, he⟩ := he
  refine wpAny_IfExp (it.step h1 hc C R fun s₁ k C₁ => ?_)
  induction c with
  | true => exact ia.step h2 he C₁ R fun v s₂ k₂ r₂ _ => ⟨Keeps.trans k k₂, r₂⟩
  | false => exact ib.step h3 he C₁ R fun v s₂ k₂ r₂ _ => ⟨Keeps.trans k k₂, r₂⟩
theorem ts_ite {t a b : E} (it : TsP prog w hB F G n t) (ia : TsP prog w hB F G n a) (ib : TsP prog w hB F G n b) : TsP prog w hB F G n (.ite t a b) := by
  intro x nm sl ρ Wo W env A s r E h he C R
  replace h := ite_j h
  induction h with
  | mk x y z pos h1 h2 h3 =>
  replace he := bind_s he
  obtain ⟨c, hc, he⟩ := he
  show wpAny (model prog w) A (isTrue x env (eval x env) >>= fun c => if c = true then isTrue y env (eval y env) else isTrue z env (eval z env)) _ E s
  refine wpAny_bind (it.step h1 hc C R fun s₁ k C₁ => ?_)
  induction c with
  | true => exact ia.step h2 he C₁ R fun s₂ k₂ _ => ⟨rfl, Keeps.trans k k₂⟩
  | false => exact ib.step h3 he C₁ R fun s₂ k₂ _ => ⟨rfl, Keeps.trans k k₂⟩
theorem ev_bool {es : Es} (i : BoP prog w hB F G n es) : EvP prog w hB F G n (.andE es) ∧ EvP prog w hB F G n (.orE es) := by
  constructor
  · intro x nm sl ρ Wo W env A s tmp p E h he C R
    replace h := bool_j h
    induction h with
    | mk vs pos h =>
    replace he := map_s he
    obtain ⟨b, hb, rfl⟩ := he
    show wpAny (model prog w) A (boolOp pos .And (evalEach vs env)) _ E s
    exact wpAny_mono ((i _ _ _ _ _ _ _ _ _ b pos E h C R).1 hb) (fun v s₁ h₁ => ⟨h₁.2, by rw [h₁.1]; rfl⟩) fun _ _ e => e
  · intro x nm sl ρ Wo W env A s tmp p E h he C R
    replace h := bool_j h
    induction h with
    | mk vs pos h =>
    replace he := map_s he
    obtain ⟨b, hb, rfl⟩ := he
    show wpAny (model prog w) A (boolOp pos .Or (evalEach vs env)) _ E s
    exact wpAny_mono ((i _ _ _ _ _ _ _ _ _ b pos E h C R).2 hb) (fun v s₁ h₁ => ⟨h₁.2, by rw [h₁.1]; rfl⟩) fun _ _ e => e
theorem ts_bool {es : Es} (i : AlP prog w hB F G n es) : TsP prog w hB F G n (.andE es) ∧ TsP prog w hB F G n (.orE es) := by
  constructor
  · intro x nm sl ρ Wo W env A s b E h he C R
    replace h := bool_j h
    induction h with
    | mk vs pos h => exact wpAny_isTrue_BoolOp ((i _ _ _ _ _ _ _ _ _ b E h C R).1 he)
  · intro x nm sl ρ Wo W env A s b E h he C R
    replace h := bool_j h
    induction h with
    | mk vs pos h => exact wpAny_isTrue_BoolOp ((i _ _ _ _ _ _ _ _ _ b E h C R).2.1 he)
theorem ts_not {e : E} (i : TsP prog w hB F G n e) : TsP prog w hB F G n (.notE e) := by
  intro x nm sl ρ Wo W env A s b E h he C R
  replace h := un_j h
  induction h with
  | mk a pos h =>
  replace he := map_s he
  obtain ⟨c, hc, rfl⟩ := he
  exact wpAny_isTrue_Not (i.step h hc C R fun s₁ k _ => ⟨rfl, k⟩)

theorem evs_nil : EvsP prog w hB F G n .nil := by
  intro xs nm sl ρ Wo W env A s tmp ps pos E h hs he C R
  rcases xs with _ | ⟨x, r⟩
  ·
    cases he; exact Calls.spliced_nil ⟨Keeps.refl _, .nil⟩
  ·
    exact ft h
theorem evs_cons {e : E} {r : Es} (i : EvP prog w hB F G n e) (ir : EvsP prog w hB F G n r) : EvsP prog w hB F G n (.cons e r) := by
  intro xs nm sl ρ Wo W env A s tmp ps pos E h hs he C R
  rcases xs with _ | ⟨x, xs⟩
  ·
    exact ft h
  ·
    replace h := and_t h
    obtain ⟨e1, e2⟩ := starEach_cons (env := env) hs
    replace he := bind_s he
    obtain ⟨p, hp, he⟩ := he
    replace he := map_s he
    obtain ⟨qs, hq, rfl⟩ := he
    rw [e1]
    exact Calls.spliced_cons (i.step h.1 hp C R fun v s₁ k₁ r₁ C₁ => ir.step h.2 e2 hq C₁ R fun vs s₂ k₂ r₂ _ => ⟨Keeps.trans k₁ k₂, .cons (r₁.ext (Keeps.ext k₂)) r₂⟩)

theorem asBool_ok {p : PV} {b : Bool} {V : List Addr} {h : Heap} {v : Value} (hp : asBool p = some b) (hv : Rep prog w V h p v) : v = .bool b := by
  replace hp := onC_last hp
  obtain ⟨c, rfl, h1⟩ := hp
  replace h1 := t_eq h1
  subst h1
  exact of_bool hv
inductive VB (F : Fns) (G : Gls) (ρ : List Slot) (e : E) (stop : Bool) (rest : Option Bool) (b : Bool) : Prop
  | stop (p : PV) (h1 : ev F G true ρ e = some p) (h2 : asBool p = some stop) (e : b = stop)
  | go (p : PV) (h1 : ev F G true ρ e = some p) (h2 : asBool p = some !stop) (h3 : rest = some b)
theorem vb_and {ρ : List Slot} {e : E} {rest : Option Bool} {b : Bool} (he : (((ev F G true ρ e).bind asBool).bind fun b => if b then rest else some false) = some b) : VB F G ρ e false rest b := by
  obtain ⟨t, ht, h⟩ := bind_s he
  obtain ⟨p, hp, ht⟩ := bind_s ht
  induction t with
  | false => cases h; exact .stop p hp ht rfl
  | true => exact .go p hp ht h
theorem vb_or {ρ : List Slot} {e : E} {rest : Option Bool} {b : Bool} (he : (((ev F G true ρ e).bind asBool).bind fun b => if b then some true else rest) = some b) : VB F G ρ e true rest b := by
  obtain ⟨t, ht, h⟩ := bind_s he
  obtain ⟨p, hp, ht⟩ := bind_s ht
  induction t with
  | true => cases h; exact .stop p hp ht rfl
  | false => exact .go p hp ht h
theorem bo_one {e : E} (i : EvP prog w hB F G n e) {x : PySem.Expr} {nm : Nms} {sl : Sls} {ρ : List Slot} {Wo W : List Addr} {env : Env} {A : Around} {s : Shared} {b : Bool} {E : Value → Shared → Prop} (h : isE nm sl e x = true) (C : Cx prog w hB nm sl ρ Wo W env s.heap) (R : Room n A)
    (he : ((ev F G true ρ e).bind asBool) = some b) : wpAny (model prog w) A (eval x env) (fun v s' => v = .bool b ∧ Keeps s s') E s := by
  obtain ⟨p, hp, hb⟩ := bind_s he
  exact i.step h hp C R fun v s₁ k₁ r₁ _ => ⟨asBool_ok hb r₁, k₁⟩
theorem bo_step {e : E} (i : EvP prog w hB F G n e) {x : PySem.Expr} {nm : Nms} {sl : Sls} {ρ : List Slot} {Wo W : List Addr} {env : Env} {A : Around} {s : Shared} {b : Bool} {pos : Pos} {op : PySem.BoolOp} {stop : Bool} {rest : Option Bool} {t : Sem Value} {E : Value → Shared → Prop} (h : isE nm sl e x = true) (C : Cx prog w hB nm sl ρ Wo W env s.heap) (R : Room n A)
    (he : VB F G ρ e stop rest b) (f : Value → Bool → Sem Value) (f1 : ∀ v, f v stop = pure v) (f2 : ∀ v, f v (!stop) = t) (hr : ∀ s₁, Keeps s s₁ → Cx prog w hB nm sl ρ Wo W env s₁.heap → rest = some b → wpAny (model prog w) A t (fun v s' => v = .bool b ∧ Keeps s₁ s') E s₁) :
    wpAny (model prog w) A (eval x env >>= fun v => standAt pos >>= fun _ => holding [v] (truthy v) >>= fun t => f v t) (fun v s' => v = .bool b ∧ Keeps s s') E s := by
  induction he with
  | stop p hp ht e =>
    refine wpAny_bind (i.step h hp C R fun v s₁ k₁ r₁ C₁ => ?_)
    cases asBool_ok ht r₁
    refine wpAny_bind (wpAny_standAt (wpAny_bind (wpAny_holding (wpAny_truthy_bool ?_))))
    rw [f1]
    exact wpAny_pure ⟨by rw [e], k₁⟩
  | go p hp ht hrest =>
    refine wpAny_bind (i.step h hp C R fun v s₁ k₁ r₁ C₁ => ?_)
    cases asBool_ok ht r₁
    refine wpAny_bind (wpAny_standAt (wpAny_bind (wpAny_holding (wpAny_truthy_bool ?_))))
    rw [f2]
    exact wpAny_mono (hr s₁ k₁ C₁ hrest) (fun v s₂ h₂ => ⟨h₂.1, Keeps.trans k₁ h₂.2⟩) fun _ _ e => e
theorem bo_cons {e : E} {r : Es} (i : EvP prog w hB F G n e) (ir : BoP prog w hB F G n r) : BoP prog w hB F G n (.cons e r) := by
  intro xs nm sl ρ Wo W env A s b pos E h C R
  rcases xs with _ | ⟨x, xs⟩
  ·
    exact ft h
  ·
    replace h := and_t h
    obtain ⟨h, hr⟩ := h
    rcases r with _ | ⟨e', r'⟩
    ·
      rcases xs with _ | ⟨y, ys⟩
      ·
        exact ⟨fun he => bo_one i h C R he, fun he => bo_one i h C R he⟩
      ·
        exact ft hr
    ·
      rcases xs with _ | ⟨y, ys⟩
      ·
        exact ft hr
      ·
        exact ⟨fun he => bo_step (op := .And) i h C R (vb_and he) (fun v t => match BoolOp.And, t with | .And, false | .Or, true => pure v | _, _ => boolOp pos .And (evalEach (y :: ys) env)) (fun _ => rfl) (fun _ => rfl) fun s₁ k C₁ h₁ => (ir _ _ _ _ _ _ _ _ _ b pos E hr C₁ R).1 h₁,
          fun he => bo_step (op := .Or) i h C R (vb_or he) (fun v t => match BoolOp.Or, t with | .And, false | .Or, true => pure v | _, _ => boolOp pos .Or (evalEach (y :: ys) env)) (fun _ => rfl) (fun _ => rfl) fun s₁ k C₁ h₁ => (ir _ _ _ _ _ _ _ _ _ b pos E hr C₁ R).2 h₁⟩
theorem bo_nil : BoP prog w hB F G n .nil := by
  intro xs nm sl ρ Wo W env A s b pos E h C R
  exact ⟨fun he => (nomatch he), fun he => (nomatch he)⟩

theorem al_nil : AlP prog w hB F G n .nil := by
  intro xs nm sl ρ Wo W env A s b E h C R
  rcases xs with _ | ⟨x, r⟩
  ·
    refine ⟨fun he => ?_, fun he => ?_, fun he => ?_⟩
    · cases he; exact wpAny_allTrue_And_nil ⟨rfl, Keeps.refl _⟩
    · cases he; exact wpAny_allTrue_Or_nil ⟨rfl, Keeps.refl _⟩
    · cases he; rw [List.forIn_nil]; exact wpAny_pure ⟨rfl, Keeps.refl _⟩
  ·
    exact ft h
theorem forIn_false {env : Env} {A : Around} {E : Value → Shared → Prop} : ∀ (xs : List PySem.Expr) (s : Shared) (Q : Bool → Shared → Prop), Q false s →
    wpAny (model prog w) A (forIn xs false fun c r => if r = true then do let ok ← isTrue c env (eval c env); pure (ForInStep.yield ok) else pure (ForInStep.yield r)) Q E s
  | [], s, Q, h => by rw [List.forIn_nil]; exact wpAny_pure h
  | x :: xs, s, Q, h => by
    rw [List.forIn_cons]
    simp only [Bool.false_eq_true, if_false, pure_bind]
    exact forIn_false xs s Q h
inductive VA (F : Fns) (G : Gls) (ρ : List Slot) (e : E) (stop : Bool) (rest : Option Bool) (b : Bool) : Prop
  | stop (h1 : tst F G ρ e = some stop) (e : b = stop)
  | go (h1 : tst F G ρ e = some !stop) (h3 : rest = some b)
theorem va_and {ρ : List Slot} {e : E} {rest : Option Bool} {b : Bool} (he : ((tst F G ρ e).bind fun b => if b then rest else some false) = some b) : VA F G ρ e false rest b := by
  obtain ⟨t, ht, h⟩ := bind_s he
  induction t with
  | false => cases h; exact .stop ht rfl
  | true => exact .go ht h
theorem va_or {ρ : List Slot} {e : E} {rest : Option Bool} {b : Bool} (he : ((tst F G ρ e).bind fun b => if b then some true else rest) = some b) : VA F G ρ e true rest b := by
  obtain ⟨t, ht, h⟩ := bind_s he
  induction t with
  | true => cases h; exact .stop ht rfl
  | false => exact .go ht h
theorem al_cons {e : E} {r : Es} (i : TsP prog w hB F G n e) (ir : AlP prog w hB F G n r) : AlP prog w hB F G n (.cons e r) := by
  intro xs nm sl ρ Wo W env A s b E h C R
  rcases xs with _ | ⟨x, xs⟩
  ·
    exact ft h
  ·
    replace h := and_t h
    obtain ⟨h, hr⟩ := h
    have go : ∀ {t : Sem Bool} {s₁ : Shared}, Keeps s s₁ → (wpAny (model prog w) A t (fun c s' => c = b ∧ Keeps s₁ s') E s₁) → wpAny (model prog w) A t (fun c s' => c = b ∧ Keeps s s') E s₁ := fun k h => wpAny_mono h (fun v s₂ h₂ => ⟨h₂.1, Keeps.trans k h₂.2⟩) fun _ _ e => e
    refine ⟨fun he => ?_, fun he => ?_, fun he => ?_⟩
    · cases va_and he with
      | stop h1 e => exact wpAny_allTrue_And_cons (i.step h h1 C R fun s₁ k C₁ => ⟨e.symm, k⟩)
      | go h1 h3 => exact wpAny_allTrue_And_cons (i.step h h1 C R fun s₁ k C₁ => go k ((ir _ _ _ _ _ _ _ _ _ b E hr C₁ R).1 h3))
    · cases va_or he with
      | stop h1 e => exact wpAny_allTrue_Or_cons (i.step h h1 C R fun s₁ k C₁ => ⟨e.symm, k⟩)
      | go h1 h3 => exact wpAny_allTrue_Or_cons (i.step h h1 C R fun s₁ k C₁ => go k ((ir _ _ _ _ _ _ _ _ _ b E hr C₁ R).2.1 h3))
    · rw [List.forIn_cons, if_pos rfl]
      cases va_and he with
      | stop h1 e => exact wpAny_bind (wpAny_bind (i.step h h1 C R fun s₁ k C₁ => wpAny_pure (forIn_false xs s₁ _ ⟨e.symm, k⟩)))
      | go h1 h3 => exact wpAny_bind (wpAny_bind (i.step h h1 C R fun s₁ k C₁ => wpAny_pure (go k ((ir _ _ _ _ _ _ _ _ _ b E hr C₁ R).2.2 h3))))
end
end Mine

end
section
open PySem PySem.W PyProof.Rows PySem.Calls
open PySem.SeqAt PySem.SeqRoads2
set_option Elab.async false
set_option autoImplicit false
namespace Mine
section
variable {prog : Program} {w : World} {hB : Heap} {K : Frag} {F : Fns} {G : Gls} {n : Nat}

theorem call_name {env : Env} {A : Around} {s : Shared} {x : Str} {p pos : Pos} {args : List PySem.Expr} {Q E : Value → Shared → Prop}
    (h : wpAny (model prog w) A (eval (.Name x p) env) (fun f s₁ => wpAny (model prog w) A (callWith pos f [] (backTo pos (starEach args env)) []) Q E s₁) E s) :
    wpAny (model prog w) A (eval (.Call (.Name x p) args [] pos) env) Q E s := by
  rw [arm_eval_Call_Name']
  exact wpAny_bind h

theorem ev_call (T : Sys prog w hB K F G n) {f : Nat} {as : Es} (i : EvsP prog w hB F G n as) : EvP prog w hB F G n (.call f as) := by
  intro x nm sl ρ Wo W env A s tmp p E h he C R
  replace h := call_j h
  induction h with
  | mk px xs pos h1 h2 h4 h5 =>
  replace he := bind_s he
  obtain ⟨ps, hps, hf⟩ := he
  obtain ⟨⟨a, o, fd, e1, e2, e3⟩, ok⟩ := T.fns f ps p hf
  refine call_name (glob_ok T.B C.base C.fn C.gl (C.kind _ _ h2 (by decide)) h1 e1 ?_)
  refine callW_ok (f := .none) (first := []) h5 (i.step h4 h5 hps C R fun vs s₁ k₁ r₁ C₁ => ⟨⟨C.base.trans (Keeps.ext k₁) _ _ (T.B.kin _ _ e2), e3⟩, ?_⟩)
  exact Gives.step (ok A s₁ (Wo ++ W) vs a R C₁.base C₁.live C₁.new e1 r₁) k₁ fun v s₂ k₂ r₂ => ⟨k₂, r₂.less fun a => av_sub⟩
theorem truthy_of {A : Around} {s : Shared} {v : Value} {b : Bool} {Q : Bool → Shared → Prop} {E : Value → Shared → Prop} (e : v = .bool b) (h : Q b s) : wpAny (model prog w) A (truthy v) Q E s := by
  subst e; exact wpAny_truthy_bool h
theorem vt_call {ρ : List Slot} {f : Nat} {as : Es} {b : Bool} (he : tst F G ρ (.call f as) = some b) : ev F G true ρ (.call f as) = some (.sc (.bool b)) := by
  obtain ⟨ps, hps, h⟩ := bind_s he
  obtain ⟨p, hp, hb⟩ := bind_s h
  obtain ⟨c, rfl, h1⟩ := onC_last hb
  cases t_eq h1
  show (evs F G false ρ as).bind _ = _
  rw [hps]; exact hp
theorem vt_var {ρ : List Slot} {i : Nat} {b : Bool} (he : tst F G ρ (.var i) = some b) : ev F G true ρ (.var i) = some (.sc (.bool b)) := by
  obtain ⟨p, hp, hb⟩ := bind_s he
  obtain ⟨c, rfl, h1⟩ := onC_last hb
  cases t_eq h1
  show one (valS ρ[i]?) _ _ = _
  rw [hp]; rfl
theorem ts_call (T : Sys prog w hB K F G n) {f : Nat} {as : Es} (i : EvsP prog w hB F G n as) : TsP prog w hB F G n (.call f as) := by
  intro x nm sl ρ Wo W env A s b E h he C R
  have := (ev_call T i).step (E := E) h (vt_call he) C R fun v s₁ k₁ r₁ _ => truthy_of (prog := prog) (w := w) (A := A) (E := E) (Q := fun c s' => c = b ∧ Keeps s s') (of_bool r₁) ⟨rfl, k₁⟩
  replace h := call_j h
  induction h with
  | mk px xs pos h1 h2 h4 h5 => exact wpAny_isTrue_value this
theorem ts_var (i : Nat) : TsP prog w hB F G n (.var i) := by
  intro x nm sl ρ Wo W env A s b E h he C R
  have := (ev_var (prog := prog) (w := w) (hB := hB) (F := F) (G := G) (n := n) i).step (E := E) h (vt_var he) C R fun v s₁ k₁ r₁ _ => truthy_of (prog := prog) (w := w) (A := A) (E := E) (Q := fun c s' => c = b ∧ Keeps s s') (of_bool r₁) ⟨rfl, k₁⟩
  replace h := any2_e h
  induction h with | mk y py h => exact wpAny_isTrue_value this

theorem ev_bi (T : Sys prog w hB K F G n) {b : Bi} {as : Es} (i : EvsP prog w hB F G n as) : EvP prog w hB F G n (.bi b as) := by
  intro x nm sl ρ Wo W env A s tmp p E h he C R
  replace h := bi_j h
  induction h with
  | mk px xs pos h1 h2 h4 h5 =>
  replace he := bind_s he
  obtain ⟨ps, hps, hf⟩ := he
  have hd : b ≠ .dict := fun e => by subst e; exact ns hf
  refine call_name (built_ok T.B C.base C.fn C.gl C.bl (C.kind _ _ h2 (by decide)) h1 (T.bi b hd) (biBoot b) (biNot b) ?_)
  refine callB_ok (first := []) (biVal_kind b) h5 (i.step h4 h5 hps C R fun vs s₁ k₁ r₁ C₁ => ?_)
  exact Gives.step (bi_ok hf R.1 C₁.live r₁) k₁ fun v s₂ k₂ r₂ => ⟨k₂, r₂.less fun a => av_sub⟩

theorem few_args {xs : List PySem.Expr} {pos : Pos} {env : Env} (h6 : noStar xs = true) (h : xs.length ≤ 10) : (((backTo pos (starEach xs env)).all (fun x => !x.1) && (backToKw pos (keywordEach [] env)).all fun x => x.1.isSome) && decide (xs.length + ([] : List Keyword).length + (if ([] : List Keyword).isEmpty then 0 else 1) < 30)) = true := by
  rw [noStar_all h6, Bool.true_and]
  exact (Bool.true_and _).trans <| decide_eq_true (Nat.lt_of_le_of_lt h (Nat.le_of_ble_eq_true rfl))
theorem ev_meth {m : Me} {o : E} {as : Es} (io : EvP prog w hB F G n o) (i : EvsP prog w hB F G n as) : EvP prog w hB F G n (.meth m o as) := by
  intro x nm sl ρ Wo W env A s tmp p E h he C R
  replace h := meth_j h
  induction h with
  | mk ob apos xs pos h2 h3 h4 h5 h6 h7 =>
  replace he := vm he
  obtain ⟨q, ps, hq, hps, hf⟩ := he
  refine PySem.wpAny_Call_method_late (attributeBase_eq h3) (few_args h6 h7) h2 rfl (io.step h4 hq C R fun ov s₁ k₁ r₁ C₁ => ?_)
  obtain ⟨T, id, t1, t2, t3, t4, t5, t6⟩ := me_ok (A := A) (V := Wo ++ W) hf r₁
  refine ⟨T, id, t1, t2, t3, t4, t5, ?_⟩
  refine callB_ok (.inl ⟨id, rfl⟩) h6 (i.step h5 h6 hps C₁ R fun vs s₂ k₂ r₂ C₂ => ?_)
  exact Gives.step (t6 s₂ vs (Keeps.ext k₂) C₂.live R.1 r₂) (Keeps.trans k₁ k₂) fun v s₃ k₃ r₃ => ⟨k₃, r₃.less fun a => av_sub⟩

theorem ev_idx {o i : E} (io : EvP prog w hB F G n o) (ii : EvP prog w hB F G n i) : EvP prog w hB F G n (.idx o i) := by
  intro x nm sl ρ Wo W env A s tmp p E h he C R
  replace h := idx_j h
  induction h with
  | mk ob ix pos h1 h2 h3 =>
  replace he := v2 he
  obtain ⟨q, q', hq, hq', he⟩ := he
  replace he := bind_s he
  obtain ⟨r, hr, hf⟩ := he
  replace hf := fltI_eq hf
  obtain ⟨rfl, ht⟩ := hf
  refine Subscript_ (io.step h2 hq C R fun ov s₁ k₁ r₁ C₁ => ?_)
  refine ii.step h3 hq' C₁ R fun iv s₂ k₂ r₂ C₂ => ?_
  refine Gives.step (index_ok hr h1 (r₁.ext (Keeps.ext k₂)) r₂) (Keeps.trans k₁ k₂) fun v s₃ k₃ r₃ => ⟨k₃, ?_⟩
  rcases ht with rfl | ⟨c, rfl⟩
  · exact r₃
  · exact r₃
end
end Mine

end
section
open PySem PySem.W PyProof.Rows PySem.Calls
open PySem.SeqAt PySem.SeqRoads2
set_option Elab.async false
set_option autoImplicit false
namespace Mine
section
variable {prog : Program} {w : World} {hB : Heap} {K : Frag} {F : Fns} {G : Gls} {n : Nat}

theorem asInt_ok {p : PV} {i : Int} {V : List Addr} {h : Heap} {v : Value} (hp : asInt p = some i) (hv : Rep prog w V h p v) : ∃ t, v = .int i t := by
  replace hp := onI_last hp
  obtain ⟨c, rfl, h1⟩ := hp
  cases h1
  exact of_int hv

theorem newFields_slice {A : Around} {s : Shared} {l u : Value} {Q E : Value → Shared → Prop} (h : Q (.ref s.heap.objs.size) { s with heap := s.heap.push { cls := .type "slice", data := .fields #[l, u, .none] } }) :
    wpAny (model prog w) A (newFields "slice" [l, u, .none]) Q E s := by
  unfold newFields
  exact wpAny_newObj_type h (by show (#[l, u, Value.none]).size ≤ sizeLine + 2; rw [sizeLine_eq]; simp)

/-- a bound of a slice -/
noncomputable def bndE (env : Env) (lo : Option PySem.Expr) : Sem Value := match lo with
  | none => pure Value.none
  | some x => eval x env
noncomputable def BndP (F : Fns) (G : Gls) (ρ : List Slot) : Option E → Option Int → Prop
  | none, i => i = none
  | some e, i => ((ev F G true ρ e).bind asInt).isSome = true ∧ i = (ev F G true ρ e).bind asInt
theorem bnd_ok {a : Option E} {lo : Option PySem.Expr} {nm : Nms} {sl : Sls} {ρ : List Slot} {Wo W : List Addr} {env : Env} {A : Around} {s : Shared} {i : Option Int} {Q E : Value → Shared → Prop} (ia : ∀ e, a = some e → EvP prog w hB F G n e) (h : JB nm sl a lo)
    (he : BndP F G ρ a i) (C : Cx prog w hB nm sl ρ Wo W env s.heap) (R : Room n A) (hQ : ∀ v s₁, Keeps s s₁ → Cx prog w hB nm sl ρ Wo W env s₁.heap → IsPart v i → Q v s₁) : wpAny (model prog w) A (bndE env lo) Q E s := by
  induction h with
  | no =>
    subst he
    exact wpAny_pure (hQ _ _ (Keeps.refl _) C .none)
  | yes e x h =>
    obtain ⟨h1, rfl⟩ := he
    obtain ⟨j, hj⟩ := Option.isSome_iff_exists.mp h1
    rw [hj] at hQ
    obtain ⟨p, hp, hj⟩ := bind_s hj
    refine (ia e rfl).step h hp C R fun v s₁ k₁ r₁ C₁ => ?_
    obtain ⟨t, rfl⟩ := asInt_ok hj r₁
    exact hQ _ _ k₁ C₁ (.int j t)
theorem sl_ev {env : Env} {lo hi : Option PySem.Expr} {p : Pos} : eval (.Slice lo hi none p) env = (bndE env lo >>= fun l => holding [l] (bndE env hi) >>= fun u => holding [l, u] (pure Value.none) >>= fun st => newFields "slice" [l, u, st]) := by
  cases lo <;> cases hi <;> rfl
inductive XSl (F : Fns) (G : Gls) (ρ : List Slot) (o : E) (a b : Option E) (r : PV) : Prop
  | mk (q : PV) (i j : Option Int) (h1 : ev F G true ρ o = some q) (h2 : BndP F G ρ a i) (h3 : BndP F G ρ b j) (h4 : slice q i j = some r)
theorem slx_ok {o : E} {a b : Option E} (io : EvP prog w hB F G n o) (ia : ∀ e, a = some e → EvP prog w hB F G n e) (ib : ∀ e, b = some e → EvP prog w hB F G n e) {x : PySem.Expr} {nm : Nms} {sl : Sls} {ρ : List Slot} {Wo W : List Addr} {env : Env} {A : Around} {s : Shared} {tmp : Bool} {p : PV} {E : Value → Shared → Prop}
    (h : JSl nm sl o a b x) (he : XSl F G ρ o a b p) (C : Cx prog w hB nm sl ρ Wo W env s.heap) (R : Room n A) : wpAny (model prog w) A (eval x env) (fun v s' => Keeps s s' ∧ Rep prog w (av tmp Wo W) s'.heap p v) E s := by
  obtain ⟨x, lo, hi, p1, p2, h0, h1, h2⟩ := h
  obtain ⟨q, i, j, e1, e2, e3, e4⟩ := he
  refine Subscript_ (io.step h0 e1 C R fun ov s₁ k₁ r₁ C₁ => ?_)
  rw [sl_ev]
  refine wpAny_bind (bnd_ok ia h1 e2 C₁ R fun l s₂ k₂ C₂ pl => wpAny_bind (wpAny_holding (bnd_ok ib h2 e3 C₂ R fun u s₃ k₃ C₃ pu => wpAny_bind (wpAny_holding (wpAny_pure (newFields_slice ?_))))))
  have k₄ := Keeps.trans k₂ (Keeps.trans k₃ (Keeps.mk' (t := s₃.toks) (ext_push s₃.heap { cls := .type "slice", data := .fields #[l, u, .none] })))
  exact Gives.step (slice_ok (V := av tmp Wo W) e4 (C₁.go (Keeps.ext k₄)).live.av (Heap.IsSliceOf.new ..) pl pu (r₁.ext (Keeps.ext k₄))) (Keeps.trans k₁ k₄) fun v s' k r => ⟨k, r⟩
theorem bnd_of {ρ : List Slot} {e : E} {i : Int} {q : PV} (h1 : ev F G true ρ e = some q) (h2 : asInt q = some i) : BndP F G ρ (some e) (some i) := by
  have : (ev F G true ρ e).bind asInt = some i := by rw [h1]; exact h2
  exact ⟨by rw [this]; rfl, this.symm⟩
theorem eqP {e e' : E} (i : EvP prog w hB F G n e) (h : some e = some e') : EvP prog w hB F G n e' := by cases h; exact i
theorem noP {e' : E} (h : none = some e') : EvP prog w hB F G n e' := by cases h
theorem ev_sl0 {o b : E} (io : EvP prog w hB F G n o) (ib : EvP prog w hB F G n b) : EvP prog w hB F G n (.sl0 o b) := by
  intro x nm sl ρ Wo W env A s tmp p E h he C R
  refine slx_ok io (fun _ => noP) (fun _ => eqP ib) (sl0_j h) ?_ C R
  obtain ⟨q, q', h1, h2, h3⟩ := v2 he
  obtain ⟨j, hj, hr⟩ := bind_s h3
  exact ⟨_, _, _, h1, rfl, bnd_of h2 hj, hr⟩
theorem ev_sl1 {o a : E} (io : EvP prog w hB F G n o) (ib : EvP prog w hB F G n a) : EvP prog w hB F G n (.sl1 o a) := by
  intro x nm sl ρ Wo W env A s tmp p E h he C R
  refine slx_ok io (fun _ => eqP ib) (fun _ => noP) (sl1_j h) ?_ C R
  obtain ⟨q, q', h1, h2, h3⟩ := v2 he
  obtain ⟨j, hj, hr⟩ := bind_s h3
  exact ⟨_, _, _, h1, bnd_of h2 hj, rfl, hr⟩
theorem ev_sl2 {o a b : E} (io : EvP prog w hB F G n o) (ia : EvP prog w hB F G n a) (ib : EvP prog w hB F G n b) : EvP prog w hB F G n (.sl2 o a b) := by
  intro x nm sl ρ Wo W env A s tmp p E h he C R
  refine slx_ok io (fun _ => eqP ia) (fun _ => eqP ib) (sl2_j h) ?_ C R
  obtain ⟨q, q', h1, h2, h3⟩ := v2 he
  obtain ⟨i, hi, h3⟩ := bind_s h3
  obtain ⟨q'', h4, h3⟩ := bind_s h3
  obtain ⟨j, hj, hr⟩ := bind_s h3
  exact ⟨_, _, _, h1, bnd_of h2 hi, bnd_of h4 hj, hr⟩

theorem scs_ok {V : List Addr} {h : Heap} : ∀ {ps : List PV} {cs : List Sc} {vs : List Value}, scs ps = some cs → Paired (Rep prog w V h) ps vs → vs.map Sc.of = cs.map some := by
  intro ps
  induction ps with
  | nil =>
    intro cs vs hs hp
    cases hs
    rw [paired_nil hp]; rfl
  | cons p r ih =>
    intro cs vs hs hp
    replace hp := paired_cons hp
    obtain ⟨v, vs', rfl, hv, hp'⟩ := hp
    replace hs := bind_s hs
    obtain ⟨c, hc, hs⟩ := hs
    replace hs := map_s hs
    obtain ⟨cs', hcs, rfl⟩ := hs
    replace hc := c_eq hc
    subst hc
    have e : Sc.of v = some c := hv
    rw [List.map_cons, List.map_cons, ih hcs hp', e]

theorem newTuple_ok {A : Around} {s : Shared} {V : List Addr} {vs : List Value} {cs : List Sc} (hL : Live V s.heap) (hm : vs.map Sc.of = cs.map some) (hl : cs.length ≤ lim) :
    Mine.Gives (model prog w) A (newTuple vs) s (fun h x => RepTup V h cs x) := by
  intro E
  have e := of_map_len hm
  have hsz : vs.toArray.size ≤ sizeLine := by rw [List.size_toArray, e]; exact Nat.le_trans hl lim_le
  exact wpAny_newObj_type ⟨Keeps.mk' (t := s.toks) (ext_push _ _), _, _, rfl, hL.fresh, ⟨_, Heap.get?_push_size _ rfl, rfl, 0, rfl⟩, by simpa using hm⟩ hsz
theorem newList_ok {A : Around} {s : Shared} {V : List Addr} {vs : List Value} {cs : List Sc} (hL : Live V s.heap) (hm : vs.map Sc.of = cs.map some) (hl : cs.length ≤ lim) {Q E : Value → Shared → Prop}
    (hQ : ∀ a h', a ∉ V → s.heap.get? a = none → Ext s.heap h' → h'.PlainList a vs.toArray → RepL V h' cs (.ref a) → Q (.ref a) { s with heap := h' }) :
    wpAny (model prog w) A (newList vs) Q E s := by
  have e := of_map_len hm
  have hsz : vs.toArray.size ≤ sizeLine := by rw [List.size_toArray, e]; exact Nat.le_trans hl lim_le
  have hp : (s.heap.push { cls := .type "list", data := .seq vs.toArray }).PlainList s.heap.objs.size vs.toArray := ⟨0, Heap.get?_push_size _ rfl⟩
  exact wpAny_newObj_type (hQ _ _ hL.fresh (fresh_none _) (ext_push _ _) hp ⟨_, _, rfl, hL.fresh, hp, by simpa using hm, hl⟩) hsz

theorem ev_tup {es : Es} (i : EvsP prog w hB F G n es) : EvP prog w hB F G n (.tup es) := by
  intro x nm sl ρ Wo W env A s tmp p E h he C R
  replace h := any3_e h
  induction h with | mk vs' kk pos h =>
  have h := and_t h
  replace he := bind_s he
  obtain ⟨ps, hps, he⟩ := he
  replace he := bind_s he
  obtain ⟨cs, hcs, he⟩ := he
  replace he := if_some he
  obtain ⟨hl, he⟩ := he
  cases he
  refine Tuple_ (i.step h.1 h.2 hps C R fun vs s₁ k₁ r₁ C₁ => ?_)
  exact Gives.step (newTuple_ok (V := av tmp Wo W) C₁.live.av (scs_ok hcs r₁) hl) k₁ fun v s₂ k r => ⟨k, r⟩
theorem one_tup {A : Around} {s : Shared} {V V' : List Addr} {vs : List Value} {l : List Sc} (hL : Live V s.heap) (hs : ∀ a ∈ V, a ∈ V') (hp : Paired (Rep prog w V' s.heap) [.tup l] vs) :
    Mine.Gives (model prog w) A (newList vs) s (fun h x => Rep prog w V h (.lstT [l]) x) := by
  intro E
  obtain ⟨v, _, rfl, hv, hp⟩ := paired_cons hp
  cases paired_nil hp
  have hpl : (s.heap.push { cls := .type "list", data := .seq #[v] }).PlainList s.heap.objs.size #[v] := ⟨0, Heap.get?_push_size _ rfl⟩
  refine wpAny_newObj_type ⟨Keeps.mk' (t := s.toks) (ext_push _ _), _, _, rfl, hL.fresh, hpl, ?_, by simp [lim_val]⟩ (by show (#[v]).size ≤ sizeLine; rw [sizeLine_eq]; simp)
  have : RepTup V' s.heap _ v := hv
  exact .cons (this.move (U := []) (fun _ _ => List.not_mem_nil) (fun a ha hm => ha (hs a hm)) fun b o _ => ext_push _ _ b o) .nil
theorem ev_lst {es : Es} (i : EvsP prog w hB F G n es) : EvP prog w hB F G n (.lst es) := by
  intro x nm sl ρ Wo W env A s tmp p E h he C R
  replace h := any2_e h
  induction h with | mk vs' pos h =>
  have h := and_t h
  replace he := bind_s he
  obtain ⟨ps, hps, he⟩ := he
  refine List_ (i.step h.1 h.2 hps C R fun vs s₁ k₁ r₁ C₁ => ?_)
  clear i h hps C
  replace he := one_some he
  rcases he with ⟨l, hl, he⟩ | he
  · cases he
    replace hl := arg1_some hl
    obtain ⟨p, rfl, hl⟩ := hl
    replace hl := u_eq hl
    subst hl
    exact Gives.step (one_tup C₁.live.av (fun a => av_sub) r₁) k₁ fun v s' k r => ⟨k, r⟩
  · replace he := bind_s he
    obtain ⟨cs, hcs, he⟩ := he
    replace he := if_some he
    obtain ⟨hl, he⟩ := he
    cases he
    exact newList_ok (V := av tmp Wo W) C₁.live.av (scs_ok hcs r₁) hl fun a h' ha hn hx hpl hr => ⟨Keeps.trans k₁ (Keeps.mk' (t := s₁.toks) hx), hr⟩

theorem asSc_ok {p : PV} {c : Sc} {V : List Addr} {h : Heap} {v : Value} (hp : asSc p = some c) (hv : Rep prog w V h p v) : Sc.of v = some c := by
  replace hp := c_eq hp
  subst hp
  exact hv

theorem comp_hyp {c : Nat} {elt it : E} {cond : Es} (ie : EvP prog w hB F G n elt) (ii : EvP prog w hB F G n it) (ic : AlP prog w hB F G n cond) {A : Around} {s : Shared} {nm : Nms} {sl : Sls} {ρ : List Slot} {Wo W : List Addr} {env : Env}
    {x : Str} {elt' iter : PySem.Expr} {ifs : List PySem.Expr} {scope : Scope} {p : PV} {xs ys : List Sc}
    (h1 : compScopeOk nm scope.names x scope.kind = true) (h2 : notSet iter = true) (h3 : isE nm sl it iter = true) (h4 : Nat.blt c sl.length = true) (h5 : isE scope.names (innerSl sl scope.names c x) elt elt' = true)
    (h6 : isEs scope.names (innerSl sl scope.names c x) cond ifs = true) (hp : ev F G true ρ it = some p) (hx : items p = some xs) (hl : xs.length ≤ lim)
    (hg : compGo (fun x => andT F G (ρ.set c (.val (.sc x))) cond) (fun x => (ev F G false (ρ.set c (.val (.sc x))) elt).bind asSc) xs = some ys) (C : Cx prog w hB nm sl ρ Wo W env s.heap) (R : Room n A) :
    CompHyp prog w A hB nm sl ρ Wo W env s x c elt' iter ifs scope p xs ys (fun x => andT F G (ρ.set c (.val (.sc x))) cond) (fun x => (ev F G false (ρ.set c (.val (.sc x))) elt).bind asSc) where
  X := C
  O := compOk_of h1
  hset := h2
  hA := R.1
  hc := Nat.le_of_ble_eq_true h4
  it := fun E => ii _ _ _ _ _ _ _ _ _ true _ E h3 hp C R
  hxs := hx
  len := hl
  go := hg
  ht := fun q b env' s' E hb C' => (ic _ _ _ _ _ _ _ _ _ b E h6 C' R).2.2 hb
  hf := fun q y env' s' E hy C' => by
    replace hy := bind_s hy
    obtain ⟨r, hr, hs⟩ := hy
    exact wpAny_mono (ie _ _ _ _ _ _ _ _ _ _ _ E h5 hr C' R) (fun v s'' h => ⟨h.1, asSc_ok hs h.2⟩) fun _ _ e => e

inductive XComp (F : Fns) (G : Gls) (ρ : List Slot) (c : Nat) (ee it : E) (cond : Es) : PV → Prop
  | mk (q : PV) (xs ys : List Sc) (hq : ev F G true ρ it = some q) (hx : items q = some xs) (hl : xs.length ≤ lim)
    (hg : compGo (fun x => andT F G (ρ.set c (.val (.sc x))) cond) (fun x => (ev F G false (ρ.set c (.val (.sc x))) ee).bind asSc) xs = some ys) : XComp F G ρ c ee it cond (.lst ys)
theorem comp_x {F : Fns} {G : Gls} {ρ : List Slot} {tmp : Bool} {c : Nat} {ee it : E} {cond : Es} {p : PV} (hp : ev F G tmp ρ (.comp c ee it cond) = some p) : XComp F G ρ c ee it cond p := by
  obtain ⟨q, hq, hp⟩ := bind_s hp
  obtain ⟨xs, hx, hp⟩ := bind_s hp
  obtain ⟨hl, hp⟩ := if_some hp
  obtain ⟨ys, hg, rfl⟩ := map_s hp
  exact ⟨q, xs, ys, hq, hx, hl, hg⟩
theorem ev_comp {c : Nat} {elt it : E} {cond : Es} (ie : EvP prog w hB F G n elt) (ii : EvP prog w hB F G n it) (ic : AlP prog w hB F G n cond) : EvP prog w hB F G n (.comp c elt it cond) := by
  intro x nm sl ρ Wo W env A s tmp p E h he C R
  replace h := anyC_e h
  induction h with | mk elt' xn px iter ifs scope pos h =>
  replace he := comp_x he
  induction he with | mk q xs ys hq hx hl hg =>
  obtain ⟨h1, h2, h3, h4, h5, h6⟩ := and_t6 h
  exact wpAny_mono (comp_ok (comp_hyp ie ii ic h1 h2 h3 h4 h5 h6 hq hx hl hg C R) E) (fun v s₁ h₁ => ⟨h₁.1, Rep.less (p := .lst ys) h₁.2 fun a => av_sub⟩) fun _ _ e => e
/-- the look into a written dict -/
inductive JDg (nm : Nms) (sl : Sls) (ks : List (Int × Int)) (i d : E) : PySem.Expr → Prop
  | mk (k v : Int) (x1 x2 : Nat) (p1 p2 dp apos pos : Pos) (a1 a2 : PySem.Expr) (name : Str) (hk : ks = [(k, v)]) (h1 : seq name "get" = true) (h2 : (apos.endLine == pos.line) = true) (h5 : isE nm sl i a1 = true) (h6 : isE nm sl d a2 = true) (h7 : noStar [a1, a2] = true) :
      JDg nm sl ks i d (.Call (.Attribute (.Dict [some (.Constant (.int k) x1 p1)] [.Constant (.int v) x2 p2] dp) name apos) [a1, a2] [] pos)
theorem dg_j {nm : Nms} {sl : Sls} {ks : List (Int × Int)} {i d : E} {x : PySem.Expr} (h : isE nm sl (.dget ks i d) x = true) : JDg nm sl ks i d x := by
  replace h := any3_e h
  induction h with | mk fx xs pos g =>
  replace g := any3_e g
  induction g with | mk ob nm' apos g =>
  replace g := any3_e g
  induction g with | mk kxs vxs dp g =>
  replace g := any2_e g
  induction g with | mk a1 a2 g =>
  replace g := any1_e g
  induction g with | mk k g =>
  replace g := any1_e g
  induction g with | mk kx g =>
  replace g := any1_e g
  induction g with | mk vx g =>
  obtain ⟨kx, rfl, g⟩ := any_some g
  obtain ⟨h1, h2, h3, h4, h5, h6, h7⟩ := and_t7 g
  replace h3 := intLit_eq h3
  induction h3 with | mk x1 p1 =>
  replace h4 := intLit_eq h4
  induction h4 with | mk x2 p2 =>
  exact ⟨_, _, _, _, _, _, _, _, _, _, _, _, rfl, h1, h2, h5, h6, h7⟩
inductive XDg (F : Fns) (G : Gls) (ρ : List Slot) (ks : List (Int × Int)) (i d : E) (p : PV) : Prop
  | mk (q q' : PV) (j : Int) (r : Sc) (h1 : ev F G true ρ i = some q) (h2 : asInt q = some j) (h3 : ev F G true ρ d = some q') (h4 : asSc q' = some r) (h5 : (ks.lookup j).elim (.sc r) (fun v => .sc (.int v)) = p)
theorem dg_ex {ρ : List Slot} {ks : List (Int × Int)} {i d : E} {tmp : Bool} {p : PV} (he : ev F G tmp ρ (.dget ks i d) = some p) : XDg F G ρ ks i d p := by
  replace he := bind_s he
  obtain ⟨q, hq, he⟩ := he
  replace he := bind_s he
  obtain ⟨j, hj, he⟩ := he
  replace he := map_s he
  obtain ⟨r, he0, he⟩ := he
  replace he0 := bind_s he0
  obtain ⟨q', hq', hr⟩ := he0
  exact ⟨q, q', j, r, hq, hj, hq', hr, by rw [← he]; cases ks.lookup j <;> rfl⟩
set_option maxHeartbeats 1000000 in
theorem ev_dget (T : Sys prog w hB K F G n) {ks : List (Int × Int)} {i d : E} (ii : EvP prog w hB F G n i) (id : EvP prog w hB F G n d) : EvP prog w hB F G n (.dget ks i d) := by
  intro x nm sl ρ Wo W env A s tmp p E h he C R
  replace h := dg_j h
  replace he := dg_ex he
  obtain ⟨k, v, x1, x2, p1, p2, dp, apos, pos, a1, a2, name, rfl, h1, h2, h5, h6, h7⟩ := h
  obtain ⟨q, q', j, r, e1, e2, e3, e4, rfl⟩ := he
  refine dget_ok (let ⟨mg, G⟩ := T.B.g; ⟨mg, G.keeps C.base⟩) h1 h2 h7 fun s₁ k₁ => ii.step h5 e1 (C.go (Keeps.ext k₁)) R fun u s₂ k₂ r₂ C₂ => ?_
  replace r₂ := asInt_ok e2 r₂
  obtain ⟨t, rfl⟩ := r₂
  refine ⟨j, k₂, rfl, id.step h6 e3 C₂ R fun y s₃ k₃ r₃ C₃ => ⟨k₃, fun s₄ k₄ => ⟨fun v t hv => ⟨Keeps.trans k₁ (Keeps.trans k₂ (Keeps.trans k₃ k₄)), ?_⟩, fun hv => ⟨Keeps.trans k₁ (Keeps.trans k₂ (Keeps.trans k₃ k₄)), ?_⟩⟩⟩⟩
  · rw [hv]; exact rfl
  · rw [hv]; exact asSc_ok e4 r₃
end
end Mine

end
section
open PySem PySem.W PyProof.Rows PySem.Calls
open PySem.SeqAt PySem.SeqRoads2
set_option Elab.async false
set_option autoImplicit false
namespace Mine
section
variable {prog : Program} {w : World} {hB : Heap} {K : Frag} {F : Fns} {G : Gls} {n : Nat}

theorem ts_none {e : E} (h : ∀ ρ, tst F G ρ e = none) : TsP prog w hB F G n e := by
  intro x nm sl ρ Wo W env A s b E _ he C R
  rw [h] at he; cases he

mutual
theorem ev_ok (T : Sys prog w hB K F G n) : ∀ e : E, EvP prog w hB F G n e
  | .k c => ev_k c
  | .var i => ev_var i
  | .glob g => ev_glob T g
  | .bin _ l r => ev_bin (ev_ok T l) (ev_ok T r)
  | .neg e => ev_neg (ev_ok T e)
  | .notE e => fun x nm sl ρ Wo W env A s tmp p E _ he _ _ => ns he
  | .andE es => (ev_bool (bo_ok T es)).1
  | .orE es => (ev_bool (bo_ok T es)).2
  | .cmp _ l r => (ev_cmp (ev_ok T l) (ev_ok T r)).1
  | .cmp2 _ _ a b c => (ev_cmp2 (ev_ok T a) (ev_ok T b) (ev_ok T c)).1
  | .ite t a b => ev_ite (ts_ok T t) (ev_ok T a) (ev_ok T b)
  | .call _ as => ev_call T (evs_ok T as)
  | .bi _ as => ev_bi T (evs_ok T as)
  | .meth _ o as => ev_meth (ev_ok T o) (evs_ok T as)
  | .idx o i => ev_idx (ev_ok T o) (ev_ok T i)
  | .sl0 o b => ev_sl0 (ev_ok T o) (ev_ok T b)
  | .sl1 o a => ev_sl1 (ev_ok T o) (ev_ok T a)
  | .sl2 o a b => ev_sl2 (ev_ok T o) (ev_ok T a) (ev_ok T b)
  | .tup es => ev_tup (evs_ok T es)
  | .lst es => ev_lst (evs_ok T es)
  | .comp _ elt it cond => ev_comp (ev_ok T elt) (ev_ok T it) (al_ok T cond)
  | .dget _ i d => ev_dget T (ev_ok T i) (ev_ok T d)
theorem ts_ok (T : Sys prog w hB K F G n) : ∀ e : E, TsP prog w hB F G n e
  | .notE e => ts_not (ts_ok T e)
  | .andE es => (ts_bool (al_ok T es)).1
  | .orE es => (ts_bool (al_ok T es)).2
  | .cmp _ l r => (ev_cmp (ev_ok T l) (ev_ok T r)).2
  | .cmp2 _ _ a b c => (ev_cmp2 (ev_ok T a) (ev_ok T b) (ev_ok T c)).2
  | .ite t a b => ts_ite (ts_ok T t) (ts_ok T a) (ts_ok T b)
  | .var i => ts_var i
  | .call _ as => ts_call T (evs_ok T as)
  | .k _ => ts_none fun _ => rfl
  | .glob _ => ts_none fun _ => rfl
  | .bin _ _ _ => ts_none fun _ => rfl
  | .neg _ => ts_none fun _ => rfl
  | .bi _ _ => ts_none fun _ => rfl
  | .meth _ _ _ => ts_none fun _ => rfl
  | .idx _ _ => ts_none fun _ => rfl
  | .sl0 _ _ => ts_none fun _ => rfl
  | .sl1 _ _ => ts_none fun _ => rfl
  | .sl2 _ _ _ => ts_none fun _ => rfl
  | .tup _ => ts_none fun _ => rfl
  | .lst _ => ts_none fun _ => rfl
  | .comp _ _ _ _ => ts_none fun _ => rfl
  | .dget _ _ _ => ts_none fun _ => rfl
theorem evs_ok (T : Sys prog w hB K F G n) : ∀ es : Es, EvsP prog w hB F G n es
  | .nil => evs_nil
  | .cons e r => evs_cons (ev_ok T e) (evs_ok T r)
theorem bo_ok (T : Sys prog w hB K F G n) : ∀ es : Es, BoP prog w hB F G n es
  | .nil => bo_nil
  | .cons e r => bo_cons (ev_ok T e) (bo_ok T r)
theorem al_ok (T : Sys prog w hB K F G n) : ∀ es : Es, AlP prog w hB F G n es
  | .nil => al_nil
  | .cons e r => al_cons (ts_ok T e) (al_ok T r)
end
end
end Mine

end
section
open PySem PySem.W PyProof.Rows PySem.Calls
open PySem.SeqAt PySem.SeqRoads2
set_option Elab.async false
set_option autoImplicit false
set_option linter.unusedVariables false
namespace Mine
section
variable {prog : Program} {w : World}

/-- only W moves -/
inductive Fr (W : List Addr) (s s' : Shared) : Prop where
  | mk (h' : Heap) (tk : Nat) (e : s' = { s with heap := h', toks := tk }) (k : ∀ b o, b ∉ W → s.heap.get? b = some o → h'.get? b = some o)
noncomputable def Grow (W W' : List Addr) (h : Heap) : Prop := (∀ a ∈ W, a ∈ W') ∧ ∀ a ∈ W', a ∈ W ∨ h.get? a = none
theorem Grow.refl (W : List Addr) (h : Heap) : Grow W W h := ⟨fun _ x => x, fun _ x => .inl x⟩
theorem Fr.refl (W : List Addr) (s : Shared) : Fr W s s := ⟨s.heap, s.toks, rfl, fun _ _ _ e => e⟩
theorem Fr.keeps {W : List Addr} {s s' : Shared} (k : Keeps s s') : Fr W s s' := let ⟨h, t, e, q⟩ := k; ⟨h, t, e, fun b o _ x => q b o x⟩
theorem Fr.at' {W : List Addr} {s s' : Shared} (f : Fr W s s') : ∀ b o, b ∉ W → s.heap.get? b = some o → s'.heap.get? b = some o := by
  obtain ⟨h, t, rfl, e⟩ := f; exact e
theorem Fr.trans {W W' : List Addr} {s s' s'' : Shared} (f : Fr W s s') (g : Grow W W' s.heap) (f' : Fr W' s' s'') : Fr W s s'' := by
  obtain ⟨h, t, rfl, e⟩ := f
  obtain ⟨h', t', rfl, e'⟩ := f'
  refine ⟨h', t', rfl, fun b o hb x => e' b o (fun hw => ?_) (e b o hb x)⟩
  rcases g.2 b hw with q | q
  · exact hb q
  · rw [x] at q; cases q
theorem Grow.trans {W W' W'' : List Addr} {s s' : Shared} (g : Grow W W' s.heap) (f : Fr W s s') (g' : Grow W' W'' s'.heap) : Grow W W'' s.heap := by
  refine ⟨fun a x => g'.1 a (g.1 a x), fun a x => ?_⟩
  rcases g'.2 a x with q | q
  · exact g.2 a q
  · cases e : s.heap.get? a with
    | none => exact .inr rfl
    | some o =>
      by_cases hw : a ∈ W
      · exact .inl hw
      · rw [f.at' a o hw e] at q; cases q

/-- what never changes -/
structure Stt (nm : Nms) (sl : Sls) (env : Env) : Prop where
  fn : env.scope.kind = .function
  gl : env.globals = mainGlobals
  bl : env.builtins = builtinsNs
  kind : ∀ x k, nm.lookup x = some k → env.kindOf x = some k
  free : ∀ x, nm.lookup x ≠ some .free
  cells : ∀ x, nm.lookup x = some .cell → ∃ c, env.cells.lookup x = some c
  cinj : ∀ x y c, env.cells.lookup x = some c → env.cells.lookup y = some c → x = y
  csep : ∀ x c, env.cells.lookup x = some c → c ≠ env.locals
  nd : ∀ (i j : Nat) (x : Str), sl[i]? = some (some x) → sl[j]? = some (some x) → i = j

noncomputable abbrev but (W : List Addr) (a : Addr) : List Addr := W.filter (· != a)
theorem mem_but {W : List Addr} {a b : Addr} : b ∈ but W a ↔ b ∈ W ∧ b ≠ a := by simp [but]

structure Sx (prog : Program) (w : World) (hB : Heap) (nm : Nms) (sl : Sls) (ρ : List Slot) (Wo W : List Addr) (env : Env) (oa : Nat → Addr) (h : Heap) : Prop where
  st : Stt nm sl env
  base : Ext hB h
  live : Live (Wo ++ W) h
  new : ∀ a ∈ Wo ++ W, hB.get? a = none
  len : sl.length = ρ.length
  loc : env.locals ∈ W ∧ ∃ m, h.Ns env.locals m
  cell : ∀ x c, env.cells.lookup x = some c → c ∈ W ∧ ∃ v, h.IsCell c v
  val : ∀ (i : Nat) (x : Str) (p : PV), sl[i]? = some (some x) → ρ[i]? = some (.val p) → ∃ v, Loads env h x v ∧ Rep prog w (Wo ++ W) h p v
  own : ∀ (i : Nat) (x : Str) (p : PV), sl[i]? = some (some x) → ρ[i]? = some (.own p) → Loads env h x (.ref (oa i)) ∧ oa i ∈ W ∧ Rep prog w (Wo ++ but W (oa i)) h p (.ref (oa i))
  oinj : ∀ (i j : Nat) (p q : PV), ρ[i]? = some (.own p) → ρ[j]? = some (.own q) → oa i = oa j → i = j
  osep : ∀ (i : Nat) (p : PV), ρ[i]? = some (.own p) → oa i ∈ W ∧ oa i ≠ env.locals ∧ ∀ x c, env.cells.lookup x = some c → oa i ≠ c

variable {hB : Heap} {nm : Nms} {sl : Sls} {ρ : List Slot} {Wo W : List Addr} {env : Env} {oa : Nat → Addr} {h : Heap}

theorem rep_notin {V : List Addr} {p : PV} {a : Addr} (x : Rep prog w V h p (.ref a)) : a ∉ V := by
  induction p with
  | sc c => simp [Rep, Sc.of] at x
  | tup l => obtain ⟨b, i, e, ha, _⟩ := x; cases e; exact ha
  | lst l => obtain ⟨b, i, e, ha, _⟩ := x; cases e; exact ha
  | lstT l => obtain ⟨b, i, e, ha, _⟩ := x; cases e; exact ha
  | rng a b c => obtain ⟨b, _, _, _, e, ha, _⟩ := x; cases e; exact ha
  | dctS d => obtain ⟨b, i, e, ha, _⟩ := x; cases e; exact ha
  | dctI d => obtain ⟨b, i, e, ha, _⟩ := x; cases e; exact ha
  | pen p cs a b => obtain ⟨c, i, t, u, e, ha, _⟩ := x; cases e; exact ha

theorem Sx.cx (X : Sx prog w hB nm sl ρ Wo W env oa h) : Cx prog w hB nm sl ρ Wo W env h where
  base := X.base
  live := X.live
  new := X.new
  fn := X.st.fn
  gl := X.st.gl
  bl := X.st.bl
  kind := fun x k e _ => X.st.kind x k e
  kindF := fun x e => (X.st.free x e).elim
  cells := X.st.cells
  len := X.len
  vars := fun i x sv hi hv => by
    induction sv with
    | un => trivial
    | val p => exact X.val i x p hi hv
    | own p =>
      obtain ⟨l, m, r⟩ := X.own i x p hi hv
      exact ⟨oa i, l, m, r.less fun a ha => List.mem_append_left _ ha⟩

theorem Loads.mv {h' : Heap} {x : Str} {v : Value} (l : Loads env h x v) (hl : ∀ b o, (b = env.locals ∨ ∃ y, env.cells.lookup y = some b) → h.get? b = some o → h'.get? b = some o) : Loads env h' x v := by
  induction l with
  | loc m k n q => obtain ⟨o, es, ep, ho, r⟩ := n; exact .loc m k ⟨o, es, ep, hl _ _ (.inl rfl) ho, r⟩ q
  | cell c k n q => obtain ⟨o, ho, hd⟩ := q; exact .cell c k n ⟨o, hl _ _ (.inr ⟨_, n⟩) ho, hd⟩
/-- what is none of the function's own may move -/
theorem Sx.frame {U Wo' : List Addr} {h' : Heap} (X : Sx prog w hB nm sl ρ Wo W env oa h) (mv : ∀ b o, b ∉ U → h.get? b = some o → h'.get? b = some o) (hU : ∀ b ∈ U, b ∈ Wo ∧ b ∉ W) (hs : ∀ a ∈ Wo', a ∈ Wo) (hl : ∀ b ∈ U, b ∈ Wo' → ∃ o, h'.get? b = some o) :
    Sx prog w hB nm sl ρ Wo' W env oa h' := by
  have ld : ∀ b o, (b = env.locals ∨ ∃ y, env.cells.lookup y = some b) → h.get? b = some o → h'.get? b = some o := fun b o e => mv b o fun m => (hU b m).2 (by
    rcases e with rfl | ⟨y, e⟩
    · exact X.loc.1
    · exact (X.cell y b e).1)
  have sub : ∀ {V : List Addr}, ∀ a ∈ Wo' ++ V, a ∈ Wo ++ V := fun a ha => (List.mem_append.mp ha).elim (fun q => List.mem_append_left _ (hs a q)) (List.mem_append_right _)
  have rp : ∀ {V : List Addr} {p : PV} {v : Value}, Rep prog w (Wo ++ V) h p v → Rep prog w (Wo' ++ V) h' p v := fun r => r.move (fun a ha m => ha (List.mem_append_left _ (hU a m).1)) (fun a ha m => ha (sub a m)) mv
  refine { st := X.st, base := fun b o e => mv b o (fun m => ?_) (X.base b o e), live := fun a ha => ?_, new := fun a ha => X.new a (sub a ha), len := X.len, loc := ⟨X.loc.1, ?_⟩, cell := fun y c e => ⟨(X.cell y c e).1, ?_⟩,
           val := fun i x p hi hv => ?_, own := fun i x p hi hv => ⟨(X.own i x p hi hv).1.mv ld, (X.own i x p hi hv).2.1, rp (X.own i x p hi hv).2.2⟩, oinj := X.oinj, osep := X.osep }
  · rw [X.new b (List.mem_append_left _ (hU b m).1)] at e; cases e
  · by_cases m : a ∈ U
    · exact (List.mem_append.mp ha).elim (hl a m) fun q => ((hU a m).2 q).elim
    · obtain ⟨o, ho⟩ := X.live a (sub a ha); exact ⟨o, mv a o m ho⟩
  · obtain ⟨_, m, o, es, ep, ho, r⟩ := X.loc
    exact ⟨m, o, es, ep, ld _ _ (.inl rfl) ho, r⟩
  · obtain ⟨_, u, o, ho, q⟩ := X.cell y c e
    exact ⟨u, o, ld _ _ (.inr ⟨y, e⟩) ho, q⟩
  · obtain ⟨v, l, r⟩ := X.val i x p hi hv
    exact ⟨v, l.mv ld, rp r⟩
theorem no_mem {P : Addr → Prop} : ∀ b ∈ ([] : List Addr), P b := fun _ m => nomatch m
theorem Sx.ext {h' : Heap} (X : Sx prog w hB nm sl ρ Wo W env oa h) (e : Ext h h') : Sx prog w hB nm sl ρ Wo W env oa h' :=
  X.frame (fun b o _ => e b o) no_mem (fun _ m => m) no_mem

theorem Ns_det {h : Heap} {a : Addr} {m m' : Str → Option Value} (x : h.Ns a m) (y : h.Ns a m') : m = m' := by
  obtain ⟨o, es, ep, ho, hd, _, hf⟩ := x
  obtain ⟨o', es', ep', ho', hd', _, hf'⟩ := y
  rw [ho] at ho'; cases ho'
  rw [hd] at hd'; cases hd'
  funext n
  rw [← hf, ← hf']

/-- a name is bound anew -/
structure Bd (env : Env) (t : Addr) (x : Str) (v : Value) (h h' : Heap) : Prop where
  ht : t = env.locals ∨ ∃ y, env.cells.lookup y = some t
  mv : ∀ b o, b ≠ t → h.get? b = some o → h'.get? b = some o
  now : Loads env h' x v
  rest : ∀ y u, y ≠ x → Loads env h y u → Loads env h' y u
  loc : (∃ m, h.Ns env.locals m) → ∃ m, h'.Ns env.locals m
  cell : ∀ y c, env.cells.lookup y = some c → (∃ v, h.IsCell c v) → ∃ v, h'.IsCell c v

theorem bd_local {m : Str → Option Value} {x : Str} {v : Value} {h' : Heap} (cs : ∀ x c, env.cells.lookup x = some c → c ≠ env.locals) (hk : env.kindOf x = some .local) (hm : h.Ns env.locals m)
    (hn : h'.Ns env.locals (fun y => if y = x then some v else m y)) (hs : ∀ b o, b ≠ env.locals → h.get? b = some o → h'.get? b = some o) : Bd env env.locals x v h h' where
  ht := .inl rfl
  mv := hs
  now := .loc _ hk hn (if_pos rfl)
  rest := fun y u hy l => by
    induction l with
    | loc m' k n q =>
      rw [Ns_det n hm] at q
      exact .loc _ k hn ((if_neg hy).trans q)
    | cell c k n q => obtain ⟨o, ho, q⟩ := q; exact .cell c k n ⟨o, hs _ _ (cs _ _ n) ho, q⟩
  loc := fun _ => ⟨_, hn⟩
  cell := fun y c hc e => by obtain ⟨u, o, ho, q⟩ := e; exact ⟨u, o, hs _ _ (cs _ _ hc) ho, q⟩
theorem bd_cell {x : Str} {c : Addr} {v : Value} {h' : Heap} (cs : ∀ x c, env.cells.lookup x = some c → c ≠ env.locals) (ci : ∀ x y c, env.cells.lookup x = some c → env.cells.lookup y = some c → x = y)
    (hk : env.kindOf x = some .cell) (hc : env.cells.lookup x = some c) (hn : h'.IsCell c (some v)) (hs : ∀ b o, b ≠ c → h.get? b = some o → h'.get? b = some o) : Bd env c x v h h' where
  ht := .inr ⟨x, hc⟩
  mv := hs
  now := .cell c (.inl hk) hc hn
  rest := fun y u hy l => by
    induction l with
    | loc m' k n q => obtain ⟨o, es, ep, ho, r⟩ := n; exact .loc m' k ⟨o, es, ep, hs _ _ (fun e => cs _ _ hc e.symm) ho, r⟩ q
    | cell d k n q => obtain ⟨o, ho, q⟩ := q; exact .cell d k n ⟨o, hs _ _ (fun e => hy (ci _ _ _ n (e ▸ hc))) ho, q⟩
  loc := fun e => by obtain ⟨m, o, es, ep, ho, r⟩ := e; exact ⟨m, o, es, ep, hs _ _ (fun e => cs _ _ hc e.symm) ho, r⟩
  cell := fun y d hd e => by
    by_cases q : d = c
    · subst q; exact ⟨_, hn⟩
    · obtain ⟨u, o, ho, r⟩ := e; exact ⟨u, o, hs _ _ q ho, r⟩

theorem sb_mv {t : Addr} {h h' : Heap} (x : Heap.SameBut t h h') : ∀ b o, b ≠ t → h.get? b = some o → h'.get? b = some o := fun b o hb e => (x.2 b hb).trans e
theorem rep_but {V V' : List Addr} {t : Addr} {h h' : Heap} {p : PV} {v : Value} (x : Rep prog w V h p v) (s : ∀ b o, b ≠ t → h.get? b = some o → h'.get? b = some o) (ht : t ∈ V) (hV : ∀ a, a ∈ V' → a ∈ V) : Rep prog w V' h' p v :=
  x.move (U := [t]) (fun a ha hm => ha (by rw [List.mem_singleton.mp hm]; exact ht)) (fun a ha hm => ha (hV a hm)) fun b o hb => s b o fun q => hb (List.mem_singleton.mpr q)
theorem live_but {V : List Addr} {t : Addr} {h h' : Heap} (x : Live V h) (s : ∀ b o, b ≠ t → h.get? b = some o → h'.get? b = some o) (ht : ∃ o, h'.get? t = some o) : Live V h' := fun a ha => by
  by_cases e : a = t
  · subst e; exact ht
  · obtain ⟨o, ho⟩ := x a ha
    exact ⟨o, s a o e ho⟩

theorem set_get {α : Type} {l : List α} {i j : Nat} {a b : α} (h : (l.set i a)[j]? = some b) : (j = i ∧ b = a) ∨ (j ≠ i ∧ l[j]? = some b) := by
  rw [List.getElem?_set] at h
  split at h
  · rename_i e
    split at h
    · exact .inl ⟨e.symm, (Option.some.inj h).symm⟩
    · cases h
  · rename_i e; exact .inr ⟨fun q => e q.symm, h⟩

theorem base_but {t : Addr} {h' : Heap} (b : Ext hB h) (hn : hB.get? t = none) (s : ∀ b o, b ≠ t → h.get? b = some o → h'.get? b = some o) : Ext hB h' := fun a o e => s a o (fun q => by rw [q, hn] at e; cases e) (b a o e)

theorem Bd.tW {t : Addr} {x : Str} {v : Value} {h' : Heap} (X : Sx prog w hB nm sl ρ Wo W env oa h) (B : Bd env t x v h h') : t ∈ W := by
  rcases B.ht with rfl | ⟨y, hy⟩
  · exact X.loc.1
  · exact (X.cell y t hy).1

theorem Sx.bindV' {t : Addr} {i : Nat} {x : Str} {v : Value} {p : PV} {h' : Heap} (X : Sx prog w hB nm sl ρ Wo W env oa h) (hi : sl[i]? = some (some x)) (B : Bd env t x v h h') (r : Rep prog w (Wo ++ W) h' p v) :
    Sx prog w hB nm sl (ρ.set i (.val p)) Wo W env oa h' := by
  have tW := B.tW X
  have tV : t ∈ Wo ++ W := List.mem_append_right _ tW
  have loc := B.loc X.loc.2
  have tn : ∃ o, h'.get? t = some o := by
    rcases B.ht with rfl | ⟨y, hy⟩
    · obtain ⟨m, o, _, _, ho, _⟩ := loc; exact ⟨o, ho⟩
    · obtain ⟨u, o, ho, _⟩ := B.cell y t hy (X.cell y t hy).2; exact ⟨o, ho⟩
  refine { st := X.st, base := base_but X.base (X.new t tV) B.mv, live := live_but X.live B.mv tn, new := X.new, len := by simpa using X.len, loc := ⟨X.loc.1, loc⟩,
           cell := fun y c hc => ⟨(X.cell y c hc).1, B.cell y c hc (X.cell y c hc).2⟩, val := ?_, own := ?_, oinj := ?_, osep := ?_ }
  · intro j y q hj hq
    replace hq := set_get hq
    rcases hq with ⟨rfl, e⟩ | ⟨hne, hq⟩
    · cases e
      rw [hi] at hj; cases hj
      exact ⟨v, B.now, r⟩
    · obtain ⟨u, l, r'⟩ := X.val j y q hj hq
      exact ⟨u, B.rest y u (by rintro rfl; exact hne (X.st.nd _ _ _ hj hi)) l, rep_but r' B.mv tV fun _ m => m⟩
  · intro j y q hj hq
    replace hq := set_get hq
    rcases hq with ⟨rfl, e⟩ | ⟨hne, hq⟩
    · cases e
    · obtain ⟨l, m, r'⟩ := X.own j y q hj hq
      obtain ⟨s0, s1, s2⟩ := X.osep j q hq
      have : t ≠ oa j := by
        rcases B.ht with rfl | ⟨z, hz⟩
        · exact fun e => s1 e.symm
        · exact fun e => s2 z t hz e.symm
      exact ⟨B.rest y _ (by rintro rfl; exact hne (X.st.nd _ _ _ hj hi)) l, m, rep_but r' B.mv (List.mem_append_right _ (mem_but.mpr ⟨tW, this⟩)) fun _ m => m⟩
  · intro j k q q' hj hk e
    replace hj := set_get hj
    rcases hj with ⟨_, e'⟩ | ⟨_, hj⟩
    · cases e'
    replace hk := set_get hk
    rcases hk with ⟨_, e'⟩ | ⟨_, hk⟩
    · cases e'
    exact X.oinj j k q q' hj hk e
  · intro j q hj
    replace hj := set_get hj
    rcases hj with ⟨_, e'⟩ | ⟨_, hj⟩
    · cases e'
    exact X.osep j q hj

theorem Sx.bindV {t : Addr} {i : Nat} {x : Str} {v : Value} {p : PV} {h' : Heap} (X : Sx prog w hB nm sl ρ Wo W env oa h) (hi : sl[i]? = some (some x)) (B : Bd env t x v h h') (r : Rep prog w (Wo ++ W) h p v) :
    Sx prog w hB nm sl (ρ.set i (.val p)) Wo W env oa h' := X.bindV' hi B (rep_but r B.mv (List.mem_append_right _ (B.tW X)) fun _ m => m)

theorem Sx.bindO {t a : Addr} {i : Nat} {x : Str} {p : PV} {h' : Heap} (X : Sx prog w hB nm sl ρ Wo W env oa h) (hi : sl[i]? = some (some x)) (B : Bd env t x (.ref a) h h') (ha : a ∈ W) (r : Rep prog w (Wo ++ but W a) h p (.ref a))
    (h1 : ∀ j q, ρ[j]? = some (.own q) → oa j ≠ a) (h2 : a ≠ env.locals) (h3 : ∀ x c, env.cells.lookup x = some c → a ≠ c) :
    Sx prog w hB nm sl (ρ.set i (.own p)) Wo W env (fun j => if j = i then a else oa j) h' := by
  have tW := B.tW X
  have tV : t ∈ Wo ++ W := List.mem_append_right _ tW
  have loc := B.loc X.loc.2
  have tn : ∃ o, h'.get? t = some o := by
    rcases B.ht with rfl | ⟨y, hy⟩
    · obtain ⟨m, o, _, _, ho, _⟩ := loc; exact ⟨o, ho⟩
    · obtain ⟨u, o, ho, _⟩ := B.cell y t hy (X.cell y t hy).2; exact ⟨o, ho⟩
  refine { st := X.st, base := base_but X.base (X.new t tV) B.mv, live := live_but X.live B.mv tn, new := X.new, len := by simpa using X.len, loc := ⟨X.loc.1, loc⟩,
           cell := fun y c hc => ⟨(X.cell y c hc).1, B.cell y c hc (X.cell y c hc).2⟩, val := ?_, own := ?_, oinj := ?_, osep := ?_ }
  · intro j y q hj hq
    replace hq := set_get hq
    rcases hq with ⟨rfl, e⟩ | ⟨hne, hq⟩
    · cases e
    · obtain ⟨u, l, r'⟩ := X.val j y q hj hq
      exact ⟨u, B.rest y u (by rintro rfl; exact hne (X.st.nd _ _ _ hj hi)) l, rep_but r' B.mv tV fun _ m => m⟩
  · intro j y q hj hq
    replace hq := set_get hq
    rcases hq with ⟨rfl, e⟩ | ⟨hne, hq⟩
    · cases e
      rw [hi] at hj; cases hj
      have : t ≠ a := by
        rcases B.ht with rfl | ⟨z, hz⟩
        · exact fun e => h2 e.symm
        · exact fun e => h3 z t hz e.symm
      simp only [if_true]
      exact ⟨B.now, ha, rep_but r B.mv (List.mem_append_right _ (mem_but.mpr ⟨tW, this⟩)) fun _ m => m⟩
    · obtain ⟨l, m, r'⟩ := X.own j y q hj hq
      obtain ⟨s0, s1, s2⟩ := X.osep j q hq
      have : t ≠ oa j := by
        rcases B.ht with rfl | ⟨z, hz⟩
        · exact fun e => s1 e.symm
        · exact fun e => s2 z t hz e.symm
      simp only [hne, if_false]
      exact ⟨B.rest y _ (by rintro rfl; exact hne (X.st.nd _ _ _ hj hi)) l, m, rep_but r' B.mv (List.mem_append_right _ (mem_but.mpr ⟨tW, this⟩)) fun _ m => m⟩
  · intro j k q q' hj hk e
    replace hj := set_get hj
    rcases hj with ⟨ej, e'⟩ | ⟨n1, hj'⟩
    · replace hk := set_get hk
      rcases hk with ⟨ek, _⟩ | ⟨n2, hk'⟩
      · rw [ej, ek]
      · simp only [ej, if_true, n2, if_false] at e
        exact (h1 k q' hk' e.symm).elim
    · replace hk := set_get hk
      rcases hk with ⟨ek, _⟩ | ⟨n2, hk'⟩
      · simp only [ek, if_true, n1, if_false] at e
        exact (h1 j q hj' e).elim
      · simp only [n1, n2, if_false] at e
        exact X.oinj j k q q' hj' hk' e
  · intro j q hj
    replace hj := set_get hj
    rcases hj with ⟨rfl, e'⟩ | ⟨n1, hj⟩
    · simp only [if_true]; exact ⟨ha, h2, h3⟩
    · simp only [n1, if_false]; exact X.osep j q hj

/-- a thing of one's own is changed in place -/
theorem Sx.change {i : Nat} {x : Str} {p p' : PV} {h' : Heap} (X : Sx prog w hB nm sl ρ Wo W env oa h) (hi : sl[i]? = some (some x)) (ho : ρ[i]? = some (.own p)) (sb : Heap.SameBut (oa i) h h') (r : Rep prog w (Wo ++ but W (oa i)) h' p' (.ref (oa i)))
    (hp : ∃ o, h'.get? (oa i) = some o) : Sx prog w hB nm sl (ρ.set i (.own p')) Wo W env oa h' := by
  obtain ⟨l0, aW, r0⟩ := X.own i x p hi ho
  obtain ⟨s0, s1, s2⟩ := X.osep i p ho
  have aV : oa i ∈ Wo ++ W := List.mem_append_right _ aW
  have mv : ∀ y u, Loads env h y u → Loads env h' y u := fun y u l => by
    induction l with
    | loc m k n q => exact .loc m k (n.sameBut sb (Ne.symm s1)) q
    | cell c k n q => exact .cell c k n (q.sameBut sb fun e => s2 _ _ n e.symm)
  refine { st := X.st, base := base_but X.base (X.new _ aV) (sb_mv sb), live := live_but X.live (sb_mv sb) hp, new := X.new, len := by simpa using X.len,
           loc := ⟨X.loc.1, let ⟨m, hm⟩ := X.loc.2; ⟨m, hm.sameBut sb (Ne.symm s1)⟩⟩,
           cell := fun y c hc => let ⟨a, v, b⟩ := X.cell y c hc; ⟨a, v, b.sameBut sb fun e => s2 _ _ hc e.symm⟩, val := ?_, own := ?_, oinj := ?_, osep := ?_ }
  · intro j y q hj hq
    replace hq := set_get hq
    rcases hq with ⟨rfl, e⟩ | ⟨hne, hq⟩
    · cases e
    · obtain ⟨u, l, r'⟩ := X.val j y q hj hq
      exact ⟨u, mv y u l, rep_but r' (sb_mv sb) aV fun _ m => m⟩
  · intro j y q hj hq
    replace hq := set_get hq
    rcases hq with ⟨rfl, e⟩ | ⟨hne, hq⟩
    · cases e
      rw [hi] at hj; cases hj
      exact ⟨mv _ _ l0, aW, r⟩
    · obtain ⟨l, m, r'⟩ := X.own j y q hj hq
      exact ⟨mv _ _ l, m, rep_but r' (sb_mv sb) (List.mem_append_right _ (mem_but.mpr ⟨aW, fun e => hne (X.oinj _ _ _ _ hq ho e.symm)⟩)) fun _ m => m⟩
  · intro j k q q' hj hk e
    have g : ∀ {j : Nat} {q : PV}, (ρ.set i (.own p'))[j]? = some (.own q) → ∃ q, ρ[j]? = some (.own q) := fun {j q} hj => by
      replace hj := set_get hj
      rcases hj with ⟨rfl, _⟩ | ⟨_, hj⟩
      · exact ⟨p, ho⟩
      · exact ⟨q, hj⟩
    replace hj := g hj
    obtain ⟨_, a⟩ := hj
    replace hk := g hk
    obtain ⟨_, b⟩ := hk
    exact X.oinj _ _ _ _ a b e
  · intro j q hj
    replace hj := set_get hj
    rcases hj with ⟨rfl, _⟩ | ⟨_, hj⟩
    · exact ⟨s0, s1, s2⟩
    · exact X.osep j q hj

theorem reptup_more {V : List Addr} {a : Addr} {l : List Sc} {v : Value} (hf : h.get? a = none) (x : RepTup V h l v) : RepTup (a :: V) h l v := by
  obtain ⟨b, i, rfl, hb, ⟨o, ho, r⟩, q⟩ := x
  refine ⟨b, i, rfl, fun m => ?_, ⟨o, ho, r⟩, q⟩
  replace m := List.mem_cons.mp m
  rcases m with rfl | m
  · rw [hf] at ho; cases ho
  · exact hb m
theorem rep_more {V : List Addr} {a : Addr} {p : PV} {v : Value} (hf : h.get? a = none) (x : Rep prog w V h p v) : Rep prog w (a :: V) h p v := by
  have key : ∀ {b : Addr} {o : Obj}, h.get? b = some o → b ∉ V → b ∉ a :: V := fun {b o} ho hb m => by
    replace m := List.mem_cons.mp m
    rcases m with rfl | m
    · rw [hf] at ho; cases ho
    · exact hb m
  induction p with
  | sc c => exact x
  | tup l => exact reptup_more hf x
  | lst l => obtain ⟨b, i, rfl, hb, ⟨n, ho⟩, q, z⟩ := x; exact ⟨b, i, rfl, key ho hb, ⟨n, ho⟩, q, z⟩
  | lstT l => obtain ⟨b, i, rfl, hb, ⟨n, ho⟩, q, z⟩ := x; exact ⟨b, i, rfl, key ho hb, ⟨n, ho⟩, q.mono fun _ _ => reptup_more hf, z⟩
  | rng a b c => obtain ⟨b, t, u, y, rfl, hb, ho⟩ := x; exact ⟨b, t, u, y, rfl, key ho hb, ho⟩
  | dctS d => obtain ⟨b, f, rfl, hb, hs, ⟨o, es, ep, ho, r⟩, hk, hm⟩ := x; exact ⟨b, f, rfl, key ho hb, hs, ⟨o, es, ep, ho, r⟩, hk, hm⟩
  | dctI d => obtain ⟨b, f, rfl, hb, hs, ⟨o, es, ep, ho, r⟩, hm⟩ := x; exact ⟨b, f, rfl, key ho hb, hs, ⟨o, es, ep, ho, r⟩, hm⟩
  | pen p cs a b => obtain ⟨c, its, t, u, rfl, hp, ⟨n, ho, r⟩, hc, hne, ⟨n', ho'⟩, hm, hk⟩ := x; exact ⟨c, its, t, u, rfl, key ho hp, ⟨n, ho, r⟩, key ho' hc, hne, ⟨n', ho'⟩, hm, hk⟩

theorem live_more {V : List Addr} {a : Addr} {h' : Heap} (x : Live V h) (e : Ext h h') (hp : ∃ o, h'.get? a = some o) : Live (a :: V) h' := fun b hb => by
  replace hb := List.mem_cons.mp hb
  rcases hb with rfl | hb
  · exact hp
  · obtain ⟨o, ho⟩ := x b hb; exact ⟨o, e _ _ ho⟩

/-- an iterator is made -/
theorem Sx.moreO {a : Addr} {h' : Heap} (X : Sx prog w hB nm sl ρ Wo W env oa h) (hf : h.get? a = none) (e : Ext h h') (hp : ∃ o, h'.get? a = some o) : Sx prog w hB nm sl ρ (a :: Wo) W env oa h' := by
  have Y := X.ext e
  have hn : hB.get? a = none := by
    cases q : hB.get? a with
    | none => rfl
    | some o => rw [X.base _ _ q] at hf; cases hf
  refine { st := X.st, base := Y.base, live := live_more X.live e hp, new := ?_, len := X.len, loc := Y.loc, cell := Y.cell, val := ?_, own := ?_, oinj := X.oinj, osep := X.osep }
  · intro b hb
    replace hb := List.mem_cons.mp hb
    rcases hb with rfl | hb
    · exact hn
    · exact X.new b hb
  · intro i x p hi hv
    obtain ⟨v, l, r⟩ := X.val i x p hi hv
    exact ⟨v, l.ext e, (rep_more hf r).ext e⟩
  · intro i x p hi hv
    obtain ⟨l, m, r⟩ := X.own i x p hi hv
    exact ⟨l.ext e, m, (rep_more hf r).ext e⟩
theorem Sx.lessO {a : Addr} (X : Sx prog w hB nm sl ρ (a :: Wo) W env oa h) : Sx prog w hB nm sl ρ Wo W env oa h :=
  X.frame (fun _ _ _ e => e) no_mem (fun _ => List.mem_cons_of_mem _) no_mem
/-- a list of one's own is made -/
theorem Sx.moreW {a : Addr} {h' : Heap} (X : Sx prog w hB nm sl ρ Wo W env oa h) (hf : h.get? a = none) (e : Ext h h') (hp : ∃ o, h'.get? a = some o) : Sx prog w hB nm sl ρ Wo (a :: W) env oa h' := by
  have Y := X.ext e
  have hn : hB.get? a = none := by
    cases q : hB.get? a with
    | none => rfl
    | some o => rw [X.base _ _ q] at hf; cases hf
  have sub : ∀ b, b ∈ Wo ++ a :: W → b = a ∨ b ∈ Wo ++ W := fun b hb => by
    replace hb := List.mem_append.mp hb
    rcases hb with hb | hb
    · exact .inr (List.mem_append_left _ hb)
    · replace hb := List.mem_cons.mp hb
      rcases hb with rfl | hb
      · exact .inl rfl
      · exact .inr (List.mem_append_right _ hb)
  refine { st := X.st, base := Y.base, live := ?_, new := ?_, len := X.len, loc := ⟨List.mem_cons_of_mem _ X.loc.1, Y.loc.2⟩, cell := fun x c hc => ⟨List.mem_cons_of_mem _ (Y.cell x c hc).1, (Y.cell x c hc).2⟩, val := ?_, own := ?_, oinj := X.oinj, osep := fun i p hi => let ⟨a, b, c⟩ := X.osep i p hi; ⟨List.mem_cons_of_mem _ a, b, c⟩ }
  · intro b hb
    rcases sub b hb with rfl | hb
    · exact hp
    · exact Y.live b hb
  · intro b hb
    rcases sub b hb with rfl | hb
    · exact hn
    · exact X.new b hb
  · intro i x p hi hv
    obtain ⟨v, l, r⟩ := X.val i x p hi hv
    refine ⟨v, l.ext e, ((rep_more hf r).ext e).less fun b hb => ?_⟩
    rcases sub b hb with rfl | hb
    · exact List.mem_cons_self
    · exact List.mem_cons_of_mem _ hb
  · intro i x p hi hv
    obtain ⟨l, m, r⟩ := X.own i x p hi hv
    refine ⟨l.ext e, List.mem_cons_of_mem _ m, ((rep_more hf r).ext e).less fun b hb => ?_⟩
    replace hb := List.mem_append.mp hb
    rcases hb with hb | hb
    · exact List.mem_cons_of_mem _ (List.mem_append_left _ hb)
    · replace hb := mem_but.mp hb
      obtain ⟨hb, hne⟩ := hb
      replace hb := List.mem_cons.mp hb
      rcases hb with rfl | hb
      · exact List.mem_cons_self
      · exact List.mem_cons_of_mem _ (List.mem_append_right _ (mem_but.mpr ⟨hb, hne⟩))
end
end Mine

end
section
open PySem PySem.W PyProof.Rows PySem.Calls
open PySem.SeqAt PySem.SeqRoads2
set_option Elab.async false
set_option autoImplicit false
namespace Mine

noncomputable def kdL (nm : Nms) (x : Str) : Bool := kdIs nm x .local || kdIs nm x .cell
noncomputable def isSD (x : PySem.Expr) : Bool := Nat.beq x.ctorIdx 9 || Nat.beq x.ctorIdx 10
noncomputable abbrev kAsg (a v : PySem.Expr) (p : Pos) : Stmt := .Assign [a] v p
noncomputable def yAsg (x : Stmt) : O3 kAsg x := if h : x.ctorIdx = 5 then @PySem.Stmt.Assign.elim (O3 kAsg) x h fun q v p => match q with | [] => .no | a :: r => match r with | [] => O3.mk (K := kAsg) a v p | _ :: _ => .no else .no
noncomputable def yExp (x : Stmt) : O2 Stmt.Expr x := if h : x.ctorIdx = 24 then @PySem.Stmt.Expr.elim (O2 Stmt.Expr) x h fun a p => O2.mk (K := Stmt.Expr) a p else .no
noncomputable def yIf (x : Stmt) : O4 Stmt.If x := if h : x.ctorIdx = 12 then @PySem.Stmt.If.elim (O4 Stmt.If) x h fun a b c p => O4.mk (K := Stmt.If) a b c p else .no
noncomputable abbrev kWhl (a : PySem.Expr) (b : List Stmt) (p : Pos) : Stmt := .While a b [] p
noncomputable def yWhl (x : Stmt) : O3 kWhl x := if h : x.ctorIdx = 11 then @PySem.Stmt.While.elim (O3 kWhl) x h fun a b q p => match q with | [] => O3.mk (K := kWhl) a b p | _ :: _ => .no else .no
noncomputable abbrev kFor (a i : PySem.Expr) (b : List Stmt) (p : Pos) : Stmt := .For a i b [] p
noncomputable def yFor (x : Stmt) : O4 kFor x := if h : x.ctorIdx = 9 then @PySem.Stmt.For.elim (O4 kFor) x h fun a i b q p => match q with | [] => O4.mk (K := kFor) a i b p | _ :: _ => .no else .no
noncomputable abbrev kRet (a : PySem.Expr) (p : Pos) : Stmt := .Return (some a) p
noncomputable def yRet (x : Stmt) : O2 kRet x := if h : x.ctorIdx = 3 then @PySem.Stmt.Return.elim (O2 kRet) x h fun q p => match q with | some a => O2.mk (K := kRet) a p | none => .no else .no
noncomputable def yCnt (x : Stmt) : O1 Stmt.Continue x := if h : x.ctorIdx = 27 then @PySem.Stmt.Continue.elim (O1 Stmt.Continue) x h fun p => O1.mk (K := Stmt.Continue) p else .no
noncomputable def yBrk (x : Stmt) : O1 Stmt.Break x := if h : x.ctorIdx = 26 then @PySem.Stmt.Break.elim (O1 Stmt.Break) x h fun p => O1.mk (K := Stmt.Break) p else .no
noncomputable def yTry (x : Stmt) (f : List Stmt → Bool) : Bool := if h : x.ctorIdx = 17 then @PySem.Stmt.Try.elim (fun _ => Bool) x h fun a q1 q2 q3 _ => !q1.isEmpty && (q2.isEmpty && (q3.isEmpty && f a)) else false
inductive GTry (f : List Stmt → Bool) : Stmt → Prop
  | mk (a : List Stmt) (h : ExceptHandler) (r : List ExceptHandler) (p : Pos) (g : f a = true) : GTry f (.Try a (h :: r) [] [] p)
theorem dte {c : Prop} [Decidable c] {t : c → Bool} (h : (if h : c then t h else false) = true) : ∃ e, t e = true := by
  by_cases e : c
  · rw [dif_pos e] at h; exact ⟨e, h⟩
  · rw [dif_neg e] at h; exact ft h
theorem try_e {f : List Stmt → Bool} {a c d : List Stmt} {b : List ExceptHandler} {p : Pos} (h : (!b.isEmpty && (c.isEmpty && (d.isEmpty && f a))) = true) : GTry f (.Try a b c d p) := by
  obtain ⟨h1, h2, h3, g⟩ := and_t4 h
  cases List.isEmpty_iff.mp h2
  cases List.isEmpty_iff.mp h3
  rcases b with _ | ⟨q, r⟩
  · exact ft h1
  · exact ⟨a, q, r, p, g⟩
theorem yTry_e {x : Stmt} {f : List Stmt → Bool} (h : yTry x f = true) : GTry f x :=
  let ⟨e, h⟩ := dte h
  @PySem.Stmt.Try.elim (fun x => ∀ e : x.ctorIdx = 17, @PySem.Stmt.Try.elim (fun _ => Bool) x e (fun a q1 q2 q3 _ => !q1.isEmpty && (q2.isEmpty && (q3.isEmpty && f a))) = true → GTry f x) x e (fun _ _ _ _ _ _ h => try_e h) e h
noncomputable def anyM (x : Stmt) (m : String) (f : Str → List PySem.Expr → Bool) : Bool :=
  any2 (yExp x) fun t _ => any3 (xCall t) fun c as p => any3 (xAttr c) fun o k ap => any2 (xName o) fun n _ => seq k m && ((ap.endLine == p.line) && f n as)
inductive GM (m : String) (f : Str → List PySem.Expr → Bool) : Stmt → Prop
  | mk (n : Str) (px apos : Pos) (as : List PySem.Expr) (pos spos : Pos) (h2 : (apos.endLine == pos.line) = true) (g : f n as = true) : GM m f (.Expr (.Call (.Attribute (.Name n px) m apos) as [] pos) spos)
theorem anyM_e {x : Stmt} {m : String} {f : Str → List PySem.Expr → Bool} (h : anyM x m f = true) : GM m f x := by
  replace h := any2_e h
  induction h with | mk t spos g =>
  replace g := any3_e g
  induction g with | mk c as pos g =>
  replace g := any3_e g
  induction g with | mk o k apos g =>
  replace g := any2_e g
  induction g with | mk n px g =>
  obtain ⟨h1, h2, h3⟩ := and_t3 g
  cases seq_eq h1
  exact ⟨n, px, apos, as, pos, spos, h2, h3⟩

noncomputable def is4 {X A B C D : Type} {K : A → B → C → D → X} {x : X} (o : O4 K x) : Bool := any4 o fun _ _ _ _ => true
noncomputable def swOk (nm : Nms) (x : Str) (pl : Nat) (v : PySem.Expr) : Bool := el4 (xLC v) (!isSD v) fun _ _ sc p => kdIs nm x .local && (pl == p.line) && !(sc.names.any fun z => seq z.1 x && (z.2 == .local || z.2 == .cell))
noncomputable def nameTs (nm : Nms) (sl : Sls) : List Nat → List PySem.Expr → Bool
  | [], ts => ts.isEmpty
  | i :: is, ts => match ts with
    | [] => false
    | t :: ts => any2 (xName t) fun n _ => kdL nm n && (slIs sl i n && nameTs nm sl is ts)
/-- no pair of displays that stores in another order -/
noncomputable def plainTo (v : PySem.Expr) : Bool := el3 (xTup v) (!(is4 (xLC v) || isSD v)) fun t _ _ => t.all (foldedForSure 8)

/-- a pair of displays whose names are stored from behind -/
noncomputable def swTo (nm : Nms) (ts : List PySem.Expr) (v : PySem.Expr) : Bool := any2 (twoL ts) fun t1 t2 => any2 (xName t1) fun x p => any2 (xName t2) fun y q => any3 (xTup v) fun vs _ _ => any2 (twoL vs) fun a b =>
  kdIs nm x .local && (kdIs nm y .local && ((q.line == p.line) && (!seq x y && (noStar [a, b] && (!([a, b].all (foldedForSure 8)) && !([a, b].all (constantsAlone 8)))))))

mutual
noncomputable def isS (nm : Nms) (sl : Sls) : S → Stmt → Bool
  | .assign i e, x => any3 (yAsg x) fun t v _ => any2 (xName t) fun n p => kdL nm n && (slIs sl i n && (swOk nm n p.line v && isE nm sl e v))
  | .new i es, x => any3 (yAsg x) fun t v _ => any2 (xName t) fun n _ => any2 (xList v) fun vs _ => kdL nm n && (slIs sl i n && (isEs nm sl es vs && noStar vs))
  | .newD i, x => any3 (yAsg x) fun t v _ => any2 (xName t) fun n _ => any3 (xDict v) fun a b _ => kdL nm n && (slIs sl i n && (a.isEmpty && b.isEmpty))
  | .unpack is e, x => any3 (yAsg x) fun t v _ => any3 (xTup t) fun ts _ _ => nameTs nm sl is ts && ((plainTo v || swTo nm ts v) && isE nm sl e v)
  | .append i e, x => anyM x "append" fun n as => any1 (oneL as) fun v => nameOk n && (slIs sl i n && (noStar [v] && isE nm sl e v))
  | .extend i e, x => anyM x "extend" fun n as => any1 (oneL as) fun v => nameOk n && (slIs sl i n && (noStar [v] && isE nm sl e v))
  | .insert0 i e, x => anyM x "insert" fun n as => any2 (twoL as) fun z v => nameOk n && (slIs sl i n && (noStar [z, v] && (intLit z 0 && isE nm sl e v)))
  | .setd i k e, x => any3 (yAsg x) fun t v _ => any3 (xSub t) fun u kx _ => any2 (xName u) fun n _ => nameOk n && (slIs sl i n && (noSlice kx && (plainTo v && (isE nm sl k kx && isE nm sl e v))))
  | .iff c a b, x => any4 (yIf x) fun t y z _ => isE nm sl c t && (isSs nm sl a y && isSs nm sl b z)
  | .whil c b, x => any3 (yWhl x) fun t y _ => isE nm sl c t && isSs nm sl b y
  | .for_ i e b, x => any4 (yFor x) fun t u y _ => any2 (xName t) fun n _ => kdL nm n && (slIs sl i n && (notSet u && (isE nm sl e u && isSs nm sl b y)))
  | .ret e, x => any2 (yRet x) fun t _ => isE nm sl e t
  | .drop e, x => any2 (yExp x) fun t _ => any3 (xCall t) (fun _ _ _ => true) && isE nm sl e t
  | .cont, x => any1 (yCnt x) fun _ => true
  | .brk, x => any1 (yBrk x) fun _ => true
  | .try_ b, x => yTry x fun t => isSs nm sl b t
  | .raise, _ => true
noncomputable def isSs (nm : Nms) (sl : Sls) : Ss → List Stmt → Bool
  | .nil, xs => xs.isEmpty
  | .cons a r, xs => match xs with
    | [] => false
    | x :: xs => isS nm sl a x && isSs nm sl r xs
end

section
variable {prog : Program} {w : World} {hB : Heap} {K : Frag} {F : Fns} {G : Gls} {n fuel : Nat}
inductive OutOk (prog : Program) (w : World) (Wo : List Addr) (h : Heap) : Out → Flow → Prop where
  | next : OutOk prog w Wo h .next .next
  | brk : OutOk prog w Wo h .brk .brk
  | cont : OutOk prog w Wo h .cont .cont
  | ret (p : PV) (v : Value) (r : Rep prog w Wo h p v) : OutOk prog w Wo h (.ret p) (.ret v)
inductive Post (prog : Program) (w : World) (hB : Heap) (nm : Nms) (sl : Sls) (Wo W : List Addr) (env : Env) (s : Shared) (ρ' : List Slot) (o : Out) (fl : Flow) (s' : Shared) : Prop where
  | mk (W' : List Addr) (oa' : Nat → Addr) (g : Grow W W' s.heap) (f : Fr W s s') (X : Sx prog w hB nm sl ρ' Wo W' env oa' s'.heap) (k : OutOk prog w Wo s'.heap o fl)
noncomputable def StP (prog : Program) (w : World) (hB : Heap) (F : Fns) (G : Gls) (n fuel : Nat) (c : S) : Prop :=
  ∀ (x : Stmt) (nm : Nms) (sl : Sls) (ρ ρ' : List Slot) (o : Out) (Wo W : List Addr) (env : Env) (oa : Nat → Addr) (A : Around) (s : Shared) (E : Value → Shared → Prop),
    isS nm sl c x = true → Mine.exec F G fuel ρ c = some (ρ', o) → Sx prog w hB nm sl ρ Wo W env oa s.heap → Room n A →
    wpAny (model prog w) A (PySem.exec x env) (Post prog w hB nm sl Wo W env s ρ' o) E s
noncomputable def BkP (prog : Program) (w : World) (hB : Heap) (F : Fns) (G : Gls) (n fuel : Nat) (c : Ss) : Prop :=
  ∀ (x : List Stmt) (nm : Nms) (sl : Sls) (ρ ρ' : List Slot) (o : Out) (Wo W : List Addr) (env : Env) (oa : Nat → Addr) (A : Around) (s : Shared) (E : Value → Shared → Prop),
    isSs nm sl c x = true → Mine.execs F G fuel ρ c = some (ρ', o) → Sx prog w hB nm sl ρ Wo W env oa s.heap → Room n A →
    wpAny (model prog w) A (PySem.execs x env) (Post prog w hB nm sl Wo W env s ρ' o) E s

/-! ## a statement, taken apart -/
section
variable (nm : Nms) (sl : Sls)
inductive IAsg (i : Nat) (e : E) : Stmt → Prop
  | mk (n : Str) (px : Pos) (v : PySem.Expr) (pos : Pos) (h1 : kdL nm n = true) (h2 : sl[i]? = some (some n)) (h3 : swOk nm n px.line v = true) (h4 : isE nm sl e v = true) : IAsg i e (.Assign [.Name n px] v pos)
inductive INew (i : Nat) (es : Es) : Stmt → Prop
  | mk (n : Str) (px : Pos) (vs : List PySem.Expr) (lp pos : Pos) (h1 : kdL nm n = true) (h2 : sl[i]? = some (some n)) (h3 : isEs nm sl es vs = true) (h4 : noStar vs = true) : INew i es (.Assign [.Name n px] (.List vs lp) pos)
inductive INewD (i : Nat) : Stmt → Prop
  | mk (n : Str) (px lp pos : Pos) (h1 : kdL nm n = true) (h2 : sl[i]? = some (some n)) : INewD i (.Assign [.Name n px] (.Dict [] [] lp) pos)
inductive IUnp (is : List Nat) (e : E) : Stmt → Prop
  | mk (ts : List PySem.Expr) (k : Nat) (tp : Pos) (v : PySem.Expr) (pos : Pos) (h1 : nameTs nm sl is ts = true) (h2 : plainTo v = true ∨ swTo nm ts v = true) (h3 : isE nm sl e v = true) : IUnp is e (.Assign [.Tuple ts k tp] v pos)
inductive IMth (i : Nat) (e : E) (m : Str) : Stmt → Prop
  | mk (n : Str) (px apos : Pos) (v : PySem.Expr) (pos spos : Pos) (h2 : (apos.endLine == pos.line) = true) (h3 : nameOk n = true) (h4 : sl[i]? = some (some n)) (h5 : noStar [v] = true) (h6 : isE nm sl e v = true) :
      IMth i e m (.Expr (.Call (.Attribute (.Name n px) m apos) [v] [] pos) spos)
inductive IIns (i : Nat) (e : E) : Stmt → Prop
  | mk (n : Str) (px apos : Pos) (c : Nat) (p0 : Pos) (v : PySem.Expr) (pos spos : Pos) (h2 : (apos.endLine == pos.line) = true) (h3 : nameOk n = true) (h4 : sl[i]? = some (some n)) (h5 : noStar [.Constant (.int 0) c p0, v] = true) (h6 : isE nm sl e v = true) :
      IIns i e (.Expr (.Call (.Attribute (.Name n px) "insert" apos) [.Constant (.int 0) c p0, v] [] pos) spos)
inductive ISet (i : Nat) (k e : E) : Stmt → Prop
  | mk (n : Str) (px : Pos) (kx : PySem.Expr) (sp : Pos) (v : PySem.Expr) (pos : Pos) (h1 : nameOk n = true) (h2 : sl[i]? = some (some n)) (h3 : noSlice kx = true) (h4 : plainTo v = true) (h5 : isE nm sl k kx = true) (h6 : isE nm sl e v = true) :
      ISet i k e (.Assign [.Subscript (.Name n px) kx sp] v pos)
inductive IIf (c : E) (a b : Ss) : Stmt → Prop
  | mk (t : PySem.Expr) (x y : List Stmt) (pos : Pos) (h1 : isE nm sl c t = true) (h2 : isSs nm sl a x = true) (h3 : isSs nm sl b y = true) : IIf c a b (.If t x y pos)
inductive IWhl (c : E) (b : Ss) : Stmt → Prop
  | mk (t : PySem.Expr) (y : List Stmt) (pos : Pos) (h1 : isE nm sl c t = true) (h2 : isSs nm sl b y = true) : IWhl c b (.While t y [] pos)
inductive IFor (i : Nat) (e : E) (b : Ss) : Stmt → Prop
  | mk (n : Str) (px : Pos) (it : PySem.Expr) (y : List Stmt) (pos : Pos) (h1 : kdL nm n = true) (h2 : sl[i]? = some (some n)) (h3 : notSet it = true) (h4 : isE nm sl e it = true) (h5 : isSs nm sl b y = true) : IFor i e b (.For (.Name n px) it y [] pos)
end
theorem asg_inv {nm : Nms} {sl : Sls} {i : Nat} {e : E} {x : Stmt} (h : isS nm sl (.assign i e) x = true) : IAsg nm sl i e x := by
  replace h := any3_e h
  induction h with | mk t v pos g =>
  replace g := any2_e g
  induction g with | mk n px g =>
  obtain ⟨h1, h2, h3, h4⟩ := and_t4 g
  exact ⟨n, px, v, pos, h1, slIs_eq h2, h3, h4⟩
theorem new_inv {nm : Nms} {sl : Sls} {i : Nat} {es : Es} {x : Stmt} (h : isS nm sl (.new i es) x = true) : INew nm sl i es x := by
  replace h := any3_e h
  induction h with | mk t v pos g =>
  replace g := any2_e g
  induction g with | mk n px g =>
  replace g := any2_e g
  induction g with | mk vs lp g =>
  obtain ⟨h1, h2, h3, h4⟩ := and_t4 g
  exact ⟨n, px, vs, lp, pos, h1, slIs_eq h2, h3, h4⟩
theorem newD_inv {nm : Nms} {sl : Sls} {i : Nat} {x : Stmt} (h : isS nm sl (.newD i) x = true) : INewD nm sl i x := by
  replace h := any3_e h
  induction h with | mk t v pos g =>
  replace g := any2_e g
  induction g with | mk n px g =>
  replace g := any3_e g
  induction g with | mk ks vs lp g =>
  obtain ⟨h1, h2, h3, h4⟩ := and_t4 g
  cases List.isEmpty_iff.mp h3
  cases List.isEmpty_iff.mp h4
  exact ⟨n, px, lp, pos, h1, slIs_eq h2⟩
theorem unp_inv {nm : Nms} {sl : Sls} {is : List Nat} {e : E} {x : Stmt} (h : isS nm sl (.unpack is e) x = true) : IUnp nm sl is e x := by
  replace h := any3_e h
  induction h with | mk t v pos g =>
  replace g := any3_e g
  induction g with | mk ts k tp g =>
  obtain ⟨h1, h2, h3⟩ := and_t3 g
  exact ⟨ts, k, tp, v, pos, h1, or_t h2, h3⟩
theorem mth_inv {nm : Nms} {sl : Sls} {i : Nat} {e : E} {m : String} {x : Stmt} (h : (anyM x m fun n as => any1 (oneL as) fun v => nameOk n && (slIs sl i n && (noStar [v] && isE nm sl e v))) = true) : IMth nm sl i e m x := by
  replace h := anyM_e h
  induction h with | mk n px apos as pos spos h2 g =>
  replace g := any1_e g
  induction g with | mk v g =>
  obtain ⟨h3, h4, h5, h6⟩ := and_t4 g
  exact ⟨n, px, apos, v, pos, spos, h2, h3, slIs_eq h4, h5, h6⟩
theorem ins_inv {nm : Nms} {sl : Sls} {i : Nat} {e : E} {x : Stmt} (h : isS nm sl (.insert0 i e) x = true) : IIns nm sl i e x := by
  replace h := anyM_e h
  induction h with | mk n px apos as pos spos h2 g =>
  replace g := any2_e g
  induction g with | mk z v g =>
  obtain ⟨h3, h4, h5, hz, h6⟩ := and_t5 g
  replace hz := intLit_eq hz
  induction hz with | mk c0 p0 =>
  exact ⟨n, px, apos, c0, p0, v, pos, spos, h2, h3, slIs_eq h4, h5, h6⟩
theorem set_inv {nm : Nms} {sl : Sls} {i : Nat} {k e : E} {x : Stmt} (h : isS nm sl (.setd i k e) x = true) : ISet nm sl i k e x := by
  replace h := any3_e h
  induction h with | mk t v pos g =>
  replace g := any3_e g
  induction g with | mk u kx sp g =>
  replace g := any2_e g
  induction g with | mk n px g =>
  obtain ⟨h1, h2, h3, h4, h5, h6⟩ := and_t6 g
  exact ⟨n, px, kx, sp, v, pos, h1, slIs_eq h2, h3, h4, h5, h6⟩
theorem if_inv {nm : Nms} {sl : Sls} {c : E} {a b : Ss} {x : Stmt} (h : isS nm sl (.iff c a b) x = true) : IIf nm sl c a b x := by
  replace h := any4_e h
  induction h with | mk t y z pos g =>
  obtain ⟨h1, h2, h3⟩ := and_t3 g
  exact ⟨t, y, z, pos, h1, h2, h3⟩
theorem whl_inv {nm : Nms} {sl : Sls} {c : E} {b : Ss} {x : Stmt} (h : isS nm sl (.whil c b) x = true) : IWhl nm sl c b x := by
  replace h := any3_e h
  induction h with | mk t y pos g => exact ⟨t, y, pos, (and_t g).1, (and_t g).2⟩
theorem for_inv {nm : Nms} {sl : Sls} {i : Nat} {e : E} {b : Ss} {x : Stmt} (h : isS nm sl (.for_ i e b) x = true) : IFor nm sl i e b x := by
  replace h := any4_e h
  induction h with | mk t it y pos g =>
  replace g := any2_e g
  induction g with | mk n px g =>
  obtain ⟨h1, h2, h3, h4, h5⟩ := and_t5 g
  exact ⟨n, px, it, y, pos, h1, slIs_eq h2, h3, h4, h5⟩
/-! ## what it does, taken apart -/
section
variable (F : Fns) (G : Gls) (ρ : List Slot)
inductive XAsg (i : Nat) (e : E) : List Slot → Out → Prop
  | mk (p : PV) (h : ev F G false ρ e = some p) : XAsg i e (ρ.set i (.val p)) .next
inductive XNew (i : Nat) (es : Es) : List Slot → Out → Prop
  | mk (ps : List PV) (cs : List Sc) (h1 : evs F G false ρ es = some ps) (h2 : scs ps = some cs) (h3 : cs.length ≤ lim) : XNew i es (ρ.set i (.own (.lst cs))) .next
inductive XUnp (is : List Nat) (e : E) : List Slot → Out → Prop
  | mk (l : List Sc) (ρ' : List Slot) (h : ev F G true ρ e = some (.tup l)) (u : unpackTo is l ρ = some ρ') : XUnp is e ρ' .next
inductive XMth (i : Nat) (e : E) (f : PV → PV → Option PV) : List Slot → Out → Prop
  | mk (p q p' : PV) (h1 : ρ[i]? = some (.own p)) (h2 : ev F G false ρ e = some q) (h3 : f p q = some p') : XMth i e f (ρ.set i (.own p')) .next
inductive XSet (i : Nat) (k e : E) : List Slot → Out → Prop
  | mk (q p kv p' : PV) (h1 : ev F G false ρ e = some q) (h2 : ρ[i]? = some (.own p)) (h3 : ev F G false ρ k = some kv) (h4 : store p kv q = some p') : XSet i k e (ρ.set i (.own p')) .next
end
section
variable {F : Fns} {G : Gls} {fuel : Nat} {ρ ρ' : List Slot} {o : Out}
theorem asg_ex {i : Nat} {e : E} (h : Mine.exec F G fuel ρ (.assign i e) = some (ρ', o)) : XAsg F G ρ i e ρ' o := by
  obtain ⟨p, h1, e1⟩ := map_s h
  cases e1; exact ⟨p, h1⟩
theorem new_ex {i : Nat} {es : Es} (h : Mine.exec F G fuel ρ (.new i es) = some (ρ', o)) : XNew F G ρ i es ρ' o := by
  obtain ⟨ps, h1, h⟩ := bind_s h
  obtain ⟨cs, h2, h⟩ := bind_s h
  obtain ⟨h3, e1⟩ := if_some h
  cases e1; exact ⟨ps, cs, h1, h2, h3⟩
theorem unp_ex {is : List Nat} {e : E} (h : Mine.exec F G fuel ρ (.unpack is e) = some (ρ', o)) : XUnp F G ρ is e ρ' o := by
  obtain ⟨p, h1, h⟩ := bind_s h
  obtain ⟨l, hl, h⟩ := one_last h
  obtain ⟨r, hu, e1⟩ := map_s h
  cases e1; cases u_eq hl; exact ⟨l, _, h1, hu⟩
theorem mth_ex {i : Nat} {e : E} {f : PV → PV → Option PV} (h : ((ownAt ρ i).bind fun p => (ev F G false ρ e).bind fun q => (f p q).map fun p' => (ρ.set i (.own p'), Out.next)) = some (ρ', o)) : XMth F G ρ i e f ρ' o := by
  obtain ⟨p, h1, h⟩ := bind_s h
  obtain ⟨q, h2, h⟩ := bind_s h
  obtain ⟨p', h3, e1⟩ := map_s h
  cases e1; exact ⟨p, q, p', ownS_eq h1, h2, h3⟩
theorem set_ex {i : Nat} {k e : E} (h : Mine.exec F G fuel ρ (.setd i k e) = some (ρ', o)) : XSet F G ρ i k e ρ' o := by
  obtain ⟨q, h1, h⟩ := bind_s h
  obtain ⟨p, h2, h⟩ := bind_s h
  obtain ⟨kv, h3, h⟩ := bind_s h
  obtain ⟨p', h4, e1⟩ := map_s h
  cases e1; exact ⟨q, p, kv, p', h1, ownS_eq h2, h3, h4⟩
end

variable {nm : Nms} {sl : Sls} {ρ : List Slot} {Wo W : List Addr} {env : Env} {oa : Nat → Addr}

theorem store_ok {A : Around} {s : Shared} {x : Str} {v : Value} {Q : Unit → Shared → Prop} {E : Value → Shared → Prop} (X : Sx prog w hB nm sl ρ Wo W env oa s.heap) (hk : kdL nm x = true)
    (hQ : ∀ t h' tk, Bd env t x v s.heap h' → Q () { s with heap := h', toks := tk }) : wpAny (model prog w) A (storeName env x v) Q E s := by
  replace hk := or_t hk
  rcases hk with hk | hk
  · have k := X.st.kind x _ (kdIs_eq hk)
    obtain ⟨m, hm⟩ := X.loc.2
    exact wpAny_storeName_local k hm (fun h' hn hs => hQ _ h' _ (bd_local X.st.csep k hm hn (sb_mv hs))) (by rw [X.st.fn]; rfl)
  · have k := X.st.kind x _ (kdIs_eq hk)
    obtain ⟨c, hc⟩ := X.st.cells x (kdIs_eq hk)
    obtain ⟨_, u, hu⟩ := X.cell x c hc
    exact wpAny_storeName_cell X.st.fn k hc hu fun h' hn hs => hQ c h' _ (bd_cell X.st.csep X.st.cinj k hc hn (sb_mv hs))
theorem Bd.fr {s : Shared} {t : Addr} {x : Str} {v : Value} {h' : Heap} {tk : Nat} (X : Sx prog w hB nm sl ρ Wo W env oa s.heap) (B : Bd env t x v s.heap h') : Fr W s { s with heap := h', toks := tk } :=
  ⟨h', tk, rfl, fun b o hb => B.mv b o fun q => hb (q ▸ B.tW X)⟩

theorem swaps_false {x : Str} {px : Pos} {v : PySem.Expr} {line : Nat} (h : swOk nm x px.line v = true) (hc : is4 (xLC v) = false) : swapsWith v (some (.Name x px)) line env = pure false := by
  rcases v with _ | _ <;> first | rfl | exact ft hc.symm | exact ft h
theorem swaps_true {x : Str} {px : Pos} {elt : PySem.Expr} {cs : List Comprehension} {scope : Scope} {p : Pos} {line : Nat} (S : Stt nm sl env) (h : swOk nm x px.line (.ListComp elt cs scope p) = true) :
    env.kindOf x = some .local ∧ swapsWith (.ListComp elt cs scope p) (some (.Name x px)) line env = pure true := by
  replace h := and_t h
  obtain ⟨h0, h3⟩ := h
  replace h0 := and_t h0
  obtain ⟨h1, h2⟩ := h0
  have h3 := not_t h3
  have k := S.kind x _ (kdIs_eq h1)
  refine ⟨k, ?_⟩
  have e3 : (scope.names.any fun (z : Str × NameKind) => z.1 == x && (z.2 == .local || z.2 == .cell)) = false := by
    rw [← h3]; congr 1; funext z; rw [seq_beq]
  show (return env.blockKind == .function && env.kindOf x == some .local && px.line == (PySem.Expr.ListComp elt cs scope p).pos.line && !(scope.names.any fun (z : Str × NameKind) => z.1 == x && (z.2 == .local || z.2 == .cell)) : Sem Bool) = pure true
  have e1 : env.blockKind = .function := by
    unfold Env.blockKind
    rw [S.fn]; rfl
  have e2 : (PySem.Expr.ListComp elt cs scope p).pos = p := rfl
  rw [e3, e1, k, e2, h2]
  rfl
end
end Mine

end
section
open PySem PySem.W PyProof.Rows PySem.Calls
open PySem.SeqAt PySem.SeqRoads2
set_option Elab.async false
set_option autoImplicit false
namespace Mine
section
variable {prog : Program} {w : World} {hB : Heap} {K : Frag} {F : Fns} {G : Gls} {n fuel : Nat}
variable {nm : Nms} {sl : Sls} {ρ : List Slot} {Wo W : List Addr} {env : Env} {oa : Nat → Addr}

theorem sx_pm {s s' : Shared} (X : Sx prog w hB nm sl ρ Wo W env oa s.heap) (k : Keeps s s') : Sx prog w hB nm sl ρ Wo W env oa s'.heap := X.ext (Keeps.ext k)

theorem comp_blockA {A : Around} {s : Shared} {x y : Str} {c : Nat} {elt iter : PySem.Expr} {ifs : List PySem.Expr} {scope : Scope} {p : PV} {xs ys : List Sc} {t : Sc → Option Bool} {f : Sc → Option Sc} {m : Str → Option Value}
    (H : CompHyp prog w A hB nm sl ρ Wo W env s x c elt iter ifs scope p xs ys t f) (hm : s.heap.Ns env.locals m) {cl : List (Str × Addr)} (hcl : ∀ y, (y, NameKind.free) ∈ scope.names → cl.lookup y = env.cells.lookup y) {R : Flow → Shared → Prop} {E : Value → Shared → Prop}
    (hR : ∀ (I D : Addr) (s₁ s₂ : Shared) (h' : Heap) (tk : Nat) (us : Array Value), Keeps s s₁ → Keeps s₁ s₂ → s₁.heap.get? I = none → s₂.heap.get? D = none → h'.PlainList D us → us.toList.map Sc.of = ys.map some →
      h'.Ns env.locals (fun z => if z = y then some (.ref D) else m z) →
      (∀ b o, b ≠ env.locals → b ≠ I → s₂.heap.get? b = some o → h'.get? b = some o) → R .next { s₂ with heap := h', toks := tk }) :
    wpAny (model prog w) A (eval iter env) (fun xv s₁ => wpAny (model prog w) A (pyIter xv) (fun it s₂ => ∃ I fp wr n P St m, it = .ref I ∧ Walks prog w A I fp wr n P St ∧ n ≤ sizeLine ∧ St 0 s₂.heap ∧ (∀ b ∈ fp, b < s₂.heap.objs.size) ∧
      env.locals ∉ wr ∧ s₂.heap.Ns env.locals m ∧ QuietOnC prog w A env scope cl x ifs elt wr P (tOf t) (fRel f) s₂ ∧
      (∀ D h' tk ys (vs : List Value), s₂.heap.get? D = none → h'.IsList D ys → h'.PlainList D ys → vs.length = n → (∀ j v, vs[j]? = some v → P j v) →
        Paired (fRel f) (vs.filter (tOf t)) ys.toList → h'.Ns env.locals (fun z => if z = y then some (.ref D) else m z) →
        (∀ b o, b ≠ env.locals → b ∉ wr → s₂.heap.get? b = some o → h'.get? b = some o) → R .next { s₂ with heap := h', toks := tk })) E s₁) E s := by
  obtain ⟨g1, g2, g3⟩ := compGo_ok H.go
  refine wpAny_mono (H.it E) (fun xv s₁ h₁ => ?_) fun _ _ e => e
  obtain ⟨k₁, r₁⟩ := h₁
  refine wpAny_mono (iter_ok H.hxs r₁) (fun it s₂ h₂ => ?_) fun _ _ e => e
  obtain ⟨k₂, I, fp, P, St, rfl, Wk, hst, hfp, hI, hIo, hfV, hP⟩ := h₂
  have up : ∀ s₃ : Shared, (∀ b o, b ∉ [I] → s₂.heap.get? b = some o → s₃.heap.get? b = some o) → Ext s.heap s₃.heap := fun s₃ hk b o e => by
    have e1 := Keeps.ext k₁ b o e
    refine hk b o (fun hm => ?_) (Keeps.ext k₂ b o e1)
    rw [List.mem_singleton.mp hm, hI] at e1; cases e1
  have hmem : ∀ i v, P i v → ∃ q, q ∈ xs ∧ Sc.of v = some q := fun i v hv => let ⟨q, hq, hs⟩ := hP i v hv; ⟨q, List.mem_of_getElem? hq, hs⟩
  have hLI : env.locals ∉ [I] := fun e => by
    rw [List.mem_singleton] at e
    obtain ⟨o, _, _, ho, _⟩ := hm
    rw [e] at ho
    rw [Keeps.ext k₁ _ _ ho] at hI; cases hI
  refine ⟨I, fp, [I], xs.length, P, St, m, rfl, Wk A H.hA, Nat.le_trans H.len lim_le, hst, hfp, hLI, (hm.keeps (Keeps.ext k₁)).keeps (Keeps.ext k₂), ⟨?_, ?_⟩, ?_⟩
  · intro C i v s₃ m₃ E' hC hv hn hm hk htk
    obtain ⟨q, hq, hs⟩ := hmem i v hv
    obtain ⟨b, hb, _⟩ := g1 q hq
    refine wpAny_mono (H.ht q b _ s₃ E' hb (inner_cx H.X H.O hcl (up s₃ hk) H.hc hn hm hs)) (fun ok s₄ h => ?_) fun _ _ e => e
    refine ⟨?_, h.2⟩
    simp only [tOf, hs, hb, Option.getD_some]
    exact h.1
  · intro C i v s₃ m₃ E' hC hv hpv hn hm hk htk
    obtain ⟨q, hq, hs⟩ := hmem i v hv
    obtain ⟨b, hb, hy⟩ := g1 q hq
    simp only [tOf, hs, hb, Option.getD_some] at hpv
    replace hpv := hy hpv
    obtain ⟨y, hy⟩ := hpv
    refine wpAny_mono (H.hf q y _ s₃ E' hy (inner_cx H.X H.O hcl (up s₃ hk) H.hc hn hm hs)) (fun u s₄ h => ?_) fun _ _ e => e
    exact ⟨⟨q, y, hs, hy, h.2⟩, h.1⟩
  · intro D h' tk us vs hD hl hpl hlen hPv hpair hns hk
    exact hR I D s₁ s₂ h' tk us k₁ k₂ hI hD hpl (g2 vs us.toList (items_of hP hlen hPv) hpair) hns fun b o hL hb e => hk b o hL (fun hm => hb (List.mem_singleton.mp hm)) e

theorem fr_two {s s₁ s₂ : Shared} {h' : Heap} {tk : Nat} (k₁ : Keeps s s₁) (k₂ : Keeps s₁ s₂) (k : ∀ b o, b ∉ W → s.heap.get? b = some o → h'.get? b = some o) : Fr W s { s₂ with heap := h', toks := tk } := by
  obtain ⟨h₁, t₁, rfl, _⟩ := k₁
  obtain ⟨h₂, t₂, rfl, _⟩ := k₂
  exact ⟨h', tk, rfl, k⟩
theorem isE_lc {nm : Nms} {sl : Sls} {e : E} {elt : PySem.Expr} {gs : List Comprehension} {scope : Scope} {p : Pos} (h : isE nm sl e (.ListComp elt gs scope p) = true) : ∃ c ee it cond, e = .comp c ee it cond := by
  rcases e with _ | _ <;> first | exact ft h | exact ⟨_, _, _, _, rfl⟩
theorem asg_comp (T : Sys prog w hB K F G n) {i c : Nat} {ee it : E} {cond : Es} {A : Around} {s : Shared} {E : Value → Shared → Prop} {x : Str} {px pos : Pos} {v : PySem.Expr} {p : PV}
    (hi : sl[i]? = some (some x)) (h3 : swOk nm x px.line v = true) (h4 : isE nm sl (.comp c ee it cond) v = true) (hp : ev F G false ρ (.comp c ee it cond) = some p)
    (X : Sx prog w hB nm sl ρ Wo W env oa s.heap) (R : Room n A) :
    wpAny (model prog w) A (PySem.exec (.Assign [.Name x px] v pos) env) (Post prog w hB nm sl Wo W env s (ρ.set i (.val p)) .next) E s := by
  replace h4 := anyC_e h4
  induction h4 with | mk elt xn px' iter ifs scope vp k1 =>
  replace h3 := swaps_true (line := pos.line) X.st h3
  obtain ⟨hk, hsw⟩ := h3
  replace k1 := and_t6 k1
  obtain ⟨g1, g2, g3, g4, g5, g6⟩ := k1
  replace hp := comp_x hp
  induction hp with | mk q xs ys hq hx hl hg =>
  have H := comp_hyp (ev_ok T ee) (ev_ok T it) (al_ok T cond) g1 g2 g3 g4 g5 g6 hq hx hl hg X.cx R
  clear g1 g2 g3 g4 g5 g6 hq hx hl hg
  obtain ⟨cl, hclos, hcl⟩ := closure_ok (env := env) _ fun y hy => H.X.cells y (H.O.free y hy)
  obtain ⟨m, hm⟩ := X.loc.2
  refine wpAny_Assign_ListComp_free _ _ hsw hclos H.O.noCell H.O.kind H.O.locals H.O.x hk (by rw [X.st.fn]; rfl) (comp_blockA H hm hcl fun I D s₁ s₂ h' tk us k₁ k₂ hI hD hpl hu hns hk' => ?_) (folded_ok H.hset)
  clear hsw hclos hcl
  have keepL : ∀ b o, b ≠ env.locals → s.heap.get? b = some o → h'.get? b = some o := fun b o hb e => by
    have e1 := Keeps.ext k₁ b o e
    exact hk' b o hb (fun q => by rw [q, hI] at e1; cases e1) (Keeps.ext k₂ b o e1)
  exact ⟨W, oa, Grow.refl _ _, fr_two k₁ k₂ fun b o hb => keepL b o fun q => hb (q ▸ X.loc.1),
    X.bindV' hi (bd_local X.st.csep hk hm hns keepL) (p := .lst ys) ⟨D, us, rfl, (sx_pm X (Keeps.trans k₁ k₂)).live.fresh' hD, hpl, hu, Nat.le_trans (compGo_ok H.go).2.2 H.len⟩, .next⟩

theorem st_assign (T : Sys prog w hB K F G n) (i : Nat) (e : E) : StP prog w hB F G n fuel (.assign i e) := by
  intro x nm sl ρ ρ' o Wo W env oa A s E h he X R
  replace h := asg_inv h
  replace he := asg_ex he
  induction h with | mk x px v pos h1 hi h3 h4 =>
  induction he with | mk p hp =>
  cases hc : is4 (xLC v) with
  | false =>
    refine wpAny_Assign_Name (wpAny_mono (ev_ok T e _ _ _ _ _ _ _ _ _ _ _ E h4 hp X.cx R) (fun v s₁ h₁ => ?_) fun _ _ e => e) (swaps_false h3 hc)
    exact store_ok (sx_pm X h₁.1) h1 fun t h' tk B => ⟨W, oa, Grow.refl _ _, (Fr.keeps h₁.1).trans (Grow.refl _ _) (B.fr (sx_pm X h₁.1)), (sx_pm X h₁.1).bindV hi B h₁.2, .next⟩
  | true =>
    obtain ⟨c, ee, it, cond, rfl⟩ : ∃ c ee it cond, e = .comp c ee it cond := by
      replace hc := any4_e hc
      induction hc with | mk _ _ _ _ _ => exact isE_lc h4
    exact asg_comp T hi h3 h4 hp X R
end
end Mine

end
section
open PySem PySem.W PyProof.Rows PySem.Calls
open PySem.SeqAt PySem.SeqRoads2
set_option Elab.async false
set_option autoImplicit false
namespace Mine

theorem valueAt_stored {K : Type} [DecidableEq K] (k : K) (v : Value) (x : K) : ∀ kvs : List (K × Value), valueAt (stored kvs k v) x = if x = k then some v else valueAt kvs x := by
  intro kvs
  unfold stored
  split
  · rename_i h
    unfold valueAt
    induction kvs with
    | nil => simp at h
    | cons a r ih =>
      obtain ⟨y, u⟩ := a
      by_cases e : y = k
      · subst e
        by_cases ex : x = y
        · subst ex; simp
        · simp only [List.map_cons, if_true, List.find?_cons, ex, if_false]
          have : decide (y = x) = false := by simp [Ne.symm ex]
          simp only [this]
          by_cases h2 : (r.any fun kv => decide (kv.1 = y)) = true
          · simpa [ex] using ih h2
          · have hr : r.map (fun kv => if kv.1 = y then (kv.1, v) else kv) = r := by
              have : ∀ kv ∈ r, (if kv.1 = y then (kv.1, v) else kv) = kv := fun kv hk => by
                rw [if_neg]
                intro e
                exact h2 (List.any_eq_true.mpr ⟨kv, hk, by simp [e]⟩)
              rw [List.map_congr_left this, List.map_id']
            rw [hr]
      · have h2 : (r.any fun kv => decide (kv.1 = k)) = true := by simpa [e] using h
        simp only [List.map_cons, e, if_false, List.find?_cons]
        by_cases ex : y = x
        · subst ex; simp [e]
        · have : decide (y = x) = false := by simp [ex]
          simp only [this]
          exact ih h2
  · rename_i h
    unfold valueAt
    rw [List.find?_append]
    by_cases ex : x = k
    · subst ex
      have : kvs.find? (fun kv => decide (kv.1 = x)) = none := by
        rw [List.find?_eq_none]
        intro kv hk
        intro e
        exact h (List.any_eq_true.mpr ⟨kv, hk, e⟩)
      rw [this]; simp
    · have : ([(k, v)].find? fun kv => decide (kv.1 = x)) = none := by simp [Ne.symm ex]
      rw [this]; simp [ex]

section
variable {prog : Program} {w : World} {hB : Heap} {K : Frag} {F : Fns} {G : Gls} {n fuel : Nat}
variable {nm : Nms} {sl : Sls} {ρ : List Slot} {Wo W : List Addr} {env : Env} {oa : Nat → Addr}

theorem Sx.fresh {h : Heap} {a : Addr} (X : Sx prog w hB nm sl ρ Wo W env oa h) (hf : h.get? a = none) :
    (∀ j q, ρ[j]? = some (.own q) → oa j ≠ a) ∧ a ≠ env.locals ∧ ∀ x c, env.cells.lookup x = some c → a ≠ c := by
  refine ⟨fun j q hj e => ?_, fun e => ?_, fun x c hc e => ?_⟩
  · obtain ⟨o, ho⟩ := X.live _ (List.mem_append_right _ (X.osep j q hj).1)
    rw [e, hf] at ho; cases ho
  · obtain ⟨m, o, _, _, ho, _⟩ := X.loc.2
    rw [← e, hf] at ho; cases ho
  · obtain ⟨_, v, o, ho, _⟩ := X.cell x c hc
    rw [← e, hf] at ho; cases ho

/-- a fresh thing becomes a name's own -/
theorem st_own {A : Around} {s s₁ : Shared} {i : Nat} {x : Str} {a : Addr} {p : PV} {h' : Heap} {E : Value → Shared → Prop} (X : Sx prog w hB nm sl ρ Wo W env oa s.heap) (hi : sl[i]? = some (some x)) (hk : kdL nm x = true) (k : Keeps s s₁)
    (hf : s₁.heap.get? a = none) (e : Ext s₁.heap h') (hp : ∃ o, h'.get? a = some o) (r : Rep prog w (Wo ++ W) h' p (.ref a)) :
    wpAny (model prog w) A (storeName env x (.ref a)) (fun _ s' => Post prog w hB nm sl Wo W env s (ρ.set i (.own p)) .next .next s') E { s₁ with heap := h' } := by
  have X₁ := sx_pm X k
  have X₂ := X₁.moreW (h' := h') hf e hp
  obtain ⟨f1, f2, f3⟩ := X₁.fresh hf
  refine store_ok (s := { s₁ with heap := h' }) X₂ hk fun t h₂ tk B => ⟨a :: W, _, ⟨fun b hb => List.mem_cons_of_mem _ hb, fun b hb => ?_⟩, ?_, X₂.bindO hi B List.mem_cons_self (r.less fun b hb => ?_) f1 f2 f3, .next⟩
  · replace hb := List.mem_cons.mp hb
    rcases hb with rfl | hb
    · right
      cases q : s.heap.get? b with
      | none => rfl
      | some o => rw [Keeps.ext k _ _ q] at hf; cases hf
    · exact .inl hb
  · refine (Fr.keeps (Keeps.trans k (Keeps.mk' (t := s₁.toks) e))).trans (W' := a :: W) ⟨fun b hb => List.mem_cons_of_mem _ hb, fun b hb => ?_⟩ (B.fr X₂)
    replace hb := List.mem_cons.mp hb
    rcases hb with rfl | hb
    · right
      cases q : s.heap.get? b with
      | none => rfl
      | some o => rw [Keeps.ext k _ _ q] at hf; cases hf
    · exact .inl hb
  · replace hb := List.mem_append.mp hb
    rcases hb with hb | hb
    · exact List.mem_append_left _ hb
    · replace hb := mem_but.mp hb
      obtain ⟨hb, hne⟩ := hb
      replace hb := List.mem_cons.mp hb
      rcases hb with rfl | hb
      · exact (hne rfl).elim
      · exact List.mem_append_right _ hb

theorem st_new (T : Sys prog w hB K F G n) (i : Nat) (es : Es) : StP prog w hB F G n fuel (.new i es) := by
  intro x nm sl ρ ρ' o Wo W env oa A s E h he X R
  replace h := new_inv h
  replace he := new_ex he
  induction h with
  | mk x px vs lp pos h1 hi h3 h4 =>
  induction he with
  | mk ps cs hps hcs hl =>
  refine wpAny_Assign_Name (List_ (wpAny_mono (evs_ok T es _ _ _ _ _ _ _ _ _ _ _ _ E h3 h4 hps X.cx R) (fun us s₁ h₁ => ?_) fun _ _ e => e)) rfl
  exact newList_ok (V := Wo ++ W) (sx_pm X h₁.1).live (scs_ok hcs h₁.2) hl fun a h' ha hn hx hpl hr => st_own X hi h1 h₁.1 hn hx (by obtain ⟨_, ho⟩ := hpl; exact ⟨_, ho⟩) hr

theorem st_newD (T : Sys prog w hB K F G n) (i : Nat) : StP prog w hB F G n fuel (.newD i) := by
  intro x nm sl ρ ρ' o Wo W env oa A s E h he X R
  replace h := newD_inv h
  induction h with
  | mk x px lp pos h1 hi =>
  cases he
  refine wpAny_Assign_Name (wpAny_Dict_empty ?_) rfl
  refine st_own X hi h1 (Keeps.refl s) (fresh_none _) (ext_push _ _) ⟨_, Heap.get?_push_size _ rfl⟩ ⟨_, [], rfl, X.live.fresh, ?_, Heap.DictOf.new _, Nat.le_refl _, fun _ => rfl⟩
  obtain ⟨mg, hmg⟩ := T.B.g
  exact not_sys ⟨mg, hmg.keeps X.base⟩ rfl
end
end Mine

end
section
open PySem PySem.W PyProof.Rows PySem.Calls
open PySem.SeqAt PySem.SeqRoads2
set_option Elab.async false
set_option autoImplicit false
namespace Mine
section
variable {prog : Program} {w : World} {hB : Heap} {K : Frag} {F : Fns} {G : Gls} {n fuel : Nat}
variable {nm : Nms} {sl : Sls} {ρ : List Slot} {Wo W : List Addr} {env : Env} {oa : Nat → Addr}

theorem seq_update {h : Heap} {a : Addr} {items : Array Value} (hp : h.PlainList a items) (f : Array Value → Array Value) : (h.update a (Obj.mapSeq f)).PlainList a (f items) := by
  obtain ⟨n, ho⟩ := hp
  refine ⟨if (f items).size == items.size then n else n + 1, ?_⟩
  have e : Obj.mapSeq f { cls := .type "list", data := .seq items n } = { cls := .type "list", data := .seq (f items) (if (f items).size == items.size then n else n + 1) } := rfl
  rw [Heap.get?_update_self _ ho (by rw [e]; rfl), e]

theorem reptup_ne {V : List Addr} {h h' : Heap} {a : Addr} {items : Array Value} {l : List Sc} {v : Value} (hp : h.PlainList a items) (sb : Heap.SameBut a h h') (x : RepTup V h l v) : RepTup V h' l v := by
  obtain ⟨b, i, rfl, hb, ⟨o, ho, hc, hd⟩, q⟩ := x
  obtain ⟨k, ha⟩ := hp
  refine ⟨b, i, rfl, hb, ⟨o, ?_, hc, hd⟩, q⟩
  rw [sb.2 b ?_]; exact ho
  rintro rfl
  rw [ha] at ho; cases ho; simp at hc

theorem paired_snoc {α β : Type} {R : α → β → Prop} : ∀ {l : List α} {r : List β} {a : α} {b : β}, Paired R l r → R a b → Paired R (l ++ [a]) (r ++ [b]) := by
  intro l r a b h hab
  induction h with
  | nil => exact .cons hab .nil
  | cons x _ ih => exact .cons x ih

theorem lst_of {p : PV} {β : Type} {f : List Sc → Option β} {d : Option β} {r : β} (h : one p.l? f d = some r) : (∃ l, p = .lst l ∧ f l = some r) ∨ d = some r := (one_some h).imp (fun ⟨l, e, x⟩ => ⟨l, l_eq e, x⟩) id
theorem own_seq {h : Heap} {p : PV} {V : List Addr} {a : Addr} (key : (∃ l, p = .lst l) ∨ ∃ l, p = .lstT l) (r : Rep prog w V h p (.ref a)) : ∃ items, h.PlainList a items ∧ items.size ≤ lim := by
  rcases key with ⟨l, rfl⟩ | ⟨l, rfl⟩
  · obtain ⟨b, items, e, _, hp, hm, hl⟩ := r
    cases e
    have := of_map_len hm
    exact ⟨items, hp, by rw [← Array.length_toList, this]; exact hl⟩
  · obtain ⟨b, items, e, _, hp, hm, hl⟩ := r
    cases e
    have := paired_length hm
    exact ⟨items, hp, by rw [← Array.length_toList, ← this]; exact hl⟩

theorem of_plain {h : Heap} {a : Addr} {i j : Array Value} (x : h.PlainList a i) (y : h.PlainList a j) : i = j := by
  obtain ⟨n, hx⟩ := x
  obtain ⟨m, hy⟩ := y
  rw [hx] at hy; cases hy; rfl

theorem grow_ok {h : Heap} {p q p' : PV} {V V' : List Addr} {a : Addr} {v : Value} {items : Array Value} (hg : grow p q = some p') (r : Rep prog w V h p (.ref a)) (hv : Rep prog w V' h q v) (hV : ∀ b, b ∈ V → b ∈ V') (hp : h.PlainList a items) {h' : Heap}
    (sb : Heap.SameBut a h h') (hp' : h'.PlainList a (items.push v)) : Rep prog w V h' p' (.ref a) := by
  have lst : ∀ {l : List Sc}, p = .lst l → items.toList.map Sc.of = l.map some ∧ a ∉ V := fun {l} e => by
    subst e
    obtain ⟨b, it, e, hb, hpl, hm, hl⟩ := r
    cases e
    exact ⟨of_plain hp hpl ▸ hm, hb⟩
  have up : ∀ {t : List Sc}, q = .tup t → RepTup V h' t v := fun {t} e => by
    subst e
    have : RepTup V' h _ v := hv
    exact reptup_ne hp sb (this.move (U := []) (fun _ _ => List.not_mem_nil) (fun b hb hm => hb (hV b hm)) fun _ _ _ e => e)
  replace hg := lst_of hg
  rcases hg with ⟨l, e, hg⟩ | hg
  · replace e := lst e
    obtain ⟨hm, hb⟩ := e
    replace hg := onC_some hg
    rcases hg with ⟨c, rfl, hg⟩ | hg
    · replace hg := if_some hg
      obtain ⟨hl', hg⟩ := hg
      cases hg
      refine ⟨a, _, rfl, hb, hp', ?_, hl'⟩
      have : Sc.of v = some _ := hv
      rw [Array.toList_push, List.map_append, List.map_append, hm]
      simp [this]
    · replace hg := iff_some hg
      obtain ⟨h0, hg⟩ := hg
      replace hg := one_last hg
      obtain ⟨t, ht, hg⟩ := hg
      cases hg
      replace h0 := List.isEmpty_iff.mp h0
      subst h0
      have e0 : items.toList = [] := List.map_eq_nil_iff.mp hm
      refine ⟨a, _, rfl, hb, hp', ?_, by rw [lim_val]; exact Nat.le_of_ble_eq_true rfl⟩
      rw [Array.toList_push, e0]
      exact .cons (up (u_eq ht)) .nil
  · obtain ⟨l, hl, hg1⟩ := one_last hg
    clear hg
    cases m_eq hl
    replace hg1 := one_last hg1
    obtain ⟨t, ht, hg2⟩ := hg1
    replace hg2 := if_some hg2
    obtain ⟨hl', hg3⟩ := hg2
    cases hg3
    obtain ⟨b, it, e, hb, hpl, hm, hl⟩ := r
    cases e
    have := of_plain hp hpl
    subst this
    refine ⟨a, _, rfl, hb, hp', ?_, hl'⟩
    rw [Array.toList_push]
    exact paired_snoc (hm.mono fun _ _ => reptup_ne hp sb) (up (u_eq ht))

theorem own_meth {A : Around} {s : Shared} {E : Value → Shared → Prop} {Q : Flow → Shared → Prop} {i : Nat} {x name : Str} {px apos pos spos : Pos} {args : List PySem.Expr} {id : String} {p : PV} {items : Array Value}
    (X : Sx prog w hB nm sl ρ Wo W env oa s.heap) (hi : sl[i]? = some (some x)) (ho : ρ[i]? = some (.own p)) (hx : nameOk x = true) (hline : (apos.endLine == pos.line) = true) (hs : noStar args = true) (hlen : args.length ≤ 10)
    (slot : PySem.Slot "list" name id) (ty : typeOf (.builtin id) = pure (.type "method_descriptor")) (hp : s.heap.PlainList (oa i) items)
    (h : wpAny (model prog w) A (spliced (backTo pos (starEach args env))) (fun vs s₁ => wpAny (model prog w) A (call (.builtin id) (.ref (oa i) :: vs)) (fun v s' => v = .none ∧ Q .next s') E s₁) E s) :
    wpAny (model prog w) A (PySem.exec (.Expr (.Call (.Attribute (.Name x px) name apos) args [] pos) spos) env) Q E s := by
  obtain ⟨l, _, _⟩ := X.own i x p hi ho
  refine wpAny_Expr (PySem.wpAny_Call_method_late (attributeBase_eq rfl) ?_ hline rfl (load_ok l X.st.fn hx ?_)) (by unfold interactive; rw [X.st.fn]; rfl) rfl
  · rw [noStar_all hs, Bool.true_and]
    exact decide_eq_true (Nat.lt_of_le_of_lt hlen (Nat.le_of_ble_eq_true rfl))
  · obtain ⟨k, hob⟩ := hp
    refine ⟨"list", id, PySem.F.plainAttrs_list, slot, ty, ⟨_, hob, rfl⟩, fun a e => by cases e; exact ⟨_, hob, rfl⟩, ?_⟩
    refine callB_ok (.inl ⟨id, rfl⟩) hs (wpAny_mono h (fun vs s₁ h₁ => ?_) fun _ _ e => e)
    refine wpAny_mono h₁ (fun v s₂ h₂ => ?_) fun _ _ e => e
    obtain ⟨rfl, h₂⟩ := h₂
    exact h₂

theorem post_change {s s₁ : Shared} {i : Nat} {x : Str} {p p' : PV} {h' : Heap} (X : Sx prog w hB nm sl ρ Wo W env oa s.heap) (k : Keeps s s₁) (hi : sl[i]? = some (some x)) (ho : ρ[i]? = some (.own p)) (sb : Heap.SameBut (oa i) s₁.heap h')
    (r : Rep prog w (Wo ++ but W (oa i)) h' p' (.ref (oa i))) (hp : ∃ o, h'.get? (oa i) = some o) (t : Nat) : Post prog w hB nm sl Wo W env s (ρ.set i (.own p')) .next .next { s₁ with heap := h', toks := t } := by
  have X₁ := sx_pm X k
  obtain ⟨s0, s1, s2⟩ := X₁.osep i p ho
  exact ⟨W, oa, Grow.refl _ _, (Fr.keeps k).trans (Grow.refl _ _) ⟨h', t, rfl, fun b o hb e => by rw [sb.2 b fun q => hb (q ▸ s0)]; exact e⟩, X₁.change hi ho sb r hp, .next⟩

theorem but_sub {V : List Addr} {a b : Addr} (h : b ∈ Wo ++ but V a) : b ∈ Wo ++ V := by
  replace h := List.mem_append.mp h
  rcases h with h | h
  · exact List.mem_append_left _ h
  · exact List.mem_append_right _ (mem_but.mp h).1

theorem ownAt_eq {i : Nat} {p : PV} (h : ownAt ρ i = some p) : ρ[i]? = some (.own p) := by
  exact ownS_eq h

theorem evs_one {e : E} {p : PV} (h : ev F G false ρ e = some p) : evs F G false ρ (.cons e .nil) = some [p] := by
  show (ev F G false ρ e).bind (fun p => some [p]) = _
  rw [h]; rfl

theorem plain_ext {h h' : Heap} {a : Addr} {items : Array Value} (x : h.PlainList a items) (e : Ext h h') : h'.PlainList a items := by
  obtain ⟨k, ho⟩ := x
  exact ⟨k, e _ _ ho⟩
theorem plain_some {h : Heap} {a : Addr} {items : Array Value} (x : h.PlainList a items) : ∃ o, h.get? a = some o := by
  obtain ⟨k, ho⟩ := x
  exact ⟨_, ho⟩
theorem grow_lists {p q p' : PV} (hg : grow p q = some p') : (∃ l, p = .lst l) ∨ ∃ l, p = .lstT l := by
  rcases one_some hg with ⟨l, e, _⟩ | e
  · exact .inl ⟨l, l_eq e⟩
  · obtain ⟨l, e, _⟩ := one_last e; exact .inr ⟨l, m_eq e⟩
theorem growAll_inv {p q p' : PV} (hg : growAll p q = some p') : ∃ a b, p = .lst a ∧ q = .lst b ∧ p' = .lst (a ++ b) ∧ (a ++ b).length ≤ lim := by
  obtain ⟨a, e1, h⟩ := one_last hg
  obtain ⟨b, e2, h⟩ := one_last h
  obtain ⟨h3, h⟩ := if_some h
  cases h
  exact ⟨a, b, l_eq e1, l_eq e2, rfl, h3⟩
theorem growAhead_inv {p q p' : PV} (hg : growAhead p q = some p') : ∃ a c, p = .lst a ∧ q = .sc c ∧ p' = .lst (c :: a) ∧ (c :: a).length ≤ lim := by
  obtain ⟨a, e1, h⟩ := one_last hg
  obtain ⟨c, e2, h⟩ := onC_last h
  obtain ⟨h3, h⟩ := if_some h
  cases h
  exact ⟨a, c, l_eq e1, e2, rfl, h3⟩

theorem st_append (T : Sys prog w hB K F G n) (i : Nat) (e : E) : StP prog w hB F G n fuel (.append i e) := by
  intro x nm sl ρ ρ' o Wo W env oa A s E h he X R
  replace h := mth_inv h
  replace he := mth_ex he
  induction h with
  | mk x px apos v pos spos h2 h3 hi h5 h6 =>
  induction he with
  | mk p q p' ho hq hg =>
  obtain ⟨-, -, r⟩ := X.own i x p hi ho
  obtain ⟨items, hpl, hsz⟩ := own_seq (grow_lists hg) r
  refine own_meth X hi ho h3 h2 h5 (Nat.le_of_ble_eq_true rfl) PySem.F.slot_list_append PySem.F.type_list_append hpl ?_
  refine wpAny_mono (evs_ok T (.cons e .nil) _ _ _ _ _ _ _ _ _ _ _ _ E (Bool.and_eq_true_iff.mpr ⟨h6, rfl⟩) h5 (evs_one hq) X.cx R) (fun vs s₁ h₁ => ?_) fun _ _ e => e
  obtain ⟨k, h₁⟩ := h₁
  obtain ⟨u, _, rfl, hu, hnil⟩ := paired_cons h₁
  cases paired_nil hnil
  exact wpAny_list_append_plain (plain_ext hpl (Keeps.ext k)) (fun h' hp' sb => ⟨rfl, post_change X k hi ho sb (grow_ok hg (r.ext (Keeps.ext k)) hu (fun b hb => but_sub hb) (plain_ext hpl (Keeps.ext k)) sb hp') (plain_some hp') _⟩) (Nat.le_trans hsz lim_le)

theorem ext_do {A : Around} {s s₁ : Shared} {E : Value → Shared → Prop} {i : Nat} {x : Str} {a b : List Sc} {u : Value} (X : Sx prog w hB nm sl ρ Wo W env oa s.heap) (hi : sl[i]? = some (some x)) (ho : ρ[i]? = some (.own (.lst a))) (k : Keeps s s₁)
    (r : Rep prog w (Wo ++ but W (oa i)) s₁.heap (.lst a) (.ref (oa i))) (hu : Rep prog w (Wo ++ W) s₁.heap (.lst b) u) (hl' : (a ++ b).length ≤ lim) :
    wpAny (model prog w) A (call (.builtin "list.extend") [.ref (oa i), u]) (fun v s' => v = .none ∧ Post prog w hB nm sl Wo W env s (ρ.set i (.own (.lst (a ++ b)))) .next .next s') E s₁ := by
  obtain ⟨b', it, rfl, hb, ⟨nb, hob⟩, hmb, hlb⟩ := hu
  obtain ⟨a', items, ea, ha, ⟨na, hoa⟩, hma, hla⟩ := r
  cases ea
  have hs2 : items.size + it.size ≤ sizeLine := by
    rw [← Array.length_toList, ← Array.length_toList, of_map_len hma, of_map_len hmb, ← List.length_append]; exact Nat.le_trans hl' lim_le
  refine call_meets PySem.F.slot_list_extend ⟨_, hoa, rfl⟩ PySem.F.entry_list_extend (PySem.F.args_list_extend_2 _ _) (AutoSeq1.list_extend_list_list_0 _ items na b' it nb (extend_door hs2) (Nat.le_trans (Nat.le_add_right _ _) hs2) (Nat.le_trans hs2 (Nat.le_succ _))) ⟨hoa, hob, ?_⟩
  have hp' := seq_update ⟨na, hoa⟩ (fun x => x ++ it)
  refine ⟨rfl, post_change (p' := .lst _) X k hi ho (Heap.SameBut.update ..) ⟨oa i, _, rfl, ha, hp', ?_, hl'⟩ (plain_some hp') _⟩
  rw [Array.toList_append, List.map_append, List.map_append, hma, hmb]
theorem st_extend (T : Sys prog w hB K F G n) (i : Nat) (e : E) : StP prog w hB F G n fuel (.extend i e) := by
  intro x nm sl ρ ρ' o Wo W env oa A s E h he X R
  replace h := mth_inv h
  replace he := mth_ex he
  induction h with
  | mk x px apos v pos spos h2 h3 hi h5 h6 =>
  induction he with
  | mk p q p' ho hq hg =>
  obtain ⟨a, b, rfl, rfl, rfl, hl⟩ := growAll_inv hg
  obtain ⟨-, -, r⟩ := X.own i x _ hi ho
  obtain ⟨items, hpl, -⟩ := own_seq (.inl ⟨_, rfl⟩) r
  refine own_meth X hi ho h3 h2 h5 (Nat.le_of_ble_eq_true rfl) PySem.F.slot_list_extend PySem.F.type_list_extend hpl ?_
  refine wpAny_mono (evs_ok T (.cons e .nil) _ _ _ _ _ _ _ _ _ _ _ _ E (Bool.and_eq_true_iff.mpr ⟨h6, rfl⟩) h5 (evs_one hq) X.cx R) (fun vs s₁ h₁ => ?_) fun _ _ e => e
  obtain ⟨k, h₁⟩ := h₁
  obtain ⟨u, _, rfl, hu, hnil⟩ := paired_cons h₁
  cases paired_nil hnil
  exact ext_do X hi ho k (r.ext (Keeps.ext k)) hu hl

theorem ins_do {A : Around} {s s₁ : Shared} {E : Value → Shared → Prop} {i : Nat} {x : Str} {a : List Sc} {c : Sc} {z u : Value} (X : Sx prog w hB nm sl ρ Wo W env oa s.heap) (hi : sl[i]? = some (some x)) (ho : ρ[i]? = some (.own (.lst a))) (k : Keeps s s₁)
    (r : Rep prog w (Wo ++ but W (oa i)) s₁.heap (.lst a) (.ref (oa i))) (hz : Sc.of z = some (.int 0)) (hu : Sc.of u = some c) (hl' : (c :: a).length ≤ lim) :
    wpAny (model prog w) A (call (.builtin "list.insert") [.ref (oa i), z, u]) (fun v s' => v = .none ∧ Post prog w hB nm sl Wo W env s (ρ.set i (.own (.lst (c :: a)))) .next .next s') E s₁ := by
  obtain ⟨tz, rfl⟩ := of_int hz
  obtain ⟨a', items, ea, ha, ⟨na, hoa⟩, hma, hla⟩ := r
  cases ea
  have hsz : items.size ≤ sizeLine := by rw [← Array.length_toList, of_map_len hma]; exact Nat.le_trans hla lim_le
  refine call_meets PySem.F.slot_list_insert ⟨_, hoa, rfl⟩ PySem.F.entry_list_insert (PySem.F.args_list_insert_3 _ _ _) (AutoListH.list_insert_list_int_val_1 _ items na 0 tz u (by decide) hsz) ⟨hoa, ?_⟩
  have hp' := seq_update ⟨na, hoa⟩ (fun xs : Array Value => have k := if (0 : Int) < 0 then ((0 : Int) + ((xs.size : Nat) : Int)).toNat else min (0 : Int).toNat xs.size; (xs.extract 0 k).push u ++ xs.extract k)
  refine ⟨rfl, post_change (p' := .lst _) X k hi ho (Heap.SameBut.update ..) ⟨oa i, _, rfl, ha, hp', ?_, hl'⟩ (plain_some hp') _⟩
  simp [hu, hma]
theorem st_insert (T : Sys prog w hB K F G n) (i : Nat) (e : E) : StP prog w hB F G n fuel (.insert0 i e) := by
  intro x nm sl ρ ρ' o Wo W env oa A s E h he X R
  replace h := ins_inv h
  replace he := mth_ex he
  induction h with
  | mk x px apos c0 p0 v pos spos h2 h3 hi h5 h6 =>
  induction he with
  | mk p q p' ho hq hg =>
  obtain ⟨a, c, rfl, rfl, rfl, hl⟩ := growAhead_inv hg
  obtain ⟨-, -, r⟩ := X.own i x _ hi ho
  obtain ⟨items, hpl, -⟩ := own_seq (.inl ⟨_, rfl⟩) r
  refine own_meth X hi ho h3 h2 h5 (Nat.le_of_ble_eq_true rfl) PySem.F.slot_list_insert PySem.F.type_list_insert hpl ?_
  refine wpAny_mono (evs_ok T (.cons (.k (.int 0)) (.cons e .nil)) _ _ _ _ _ _ _ _ _ _ _ _ E (Bool.and_eq_true_iff.mpr ⟨rfl, Bool.and_eq_true_iff.mpr ⟨h6, rfl⟩⟩) h5 (show (some (PV.sc (.int 0))).bind (fun p => (evs F G false ρ (.cons e .nil)).map (p :: ·)) = some [.sc (.int 0), _] by rw [evs_one hq]; rfl) X.cx R) (fun vs s₁ h₁ => ?_) fun _ _ e => e
  obtain ⟨k, h₁⟩ := h₁
  obtain ⟨z, _, rfl, hz, h₂⟩ := paired_cons h₁
  obtain ⟨u, _, rfl, hu, hnil⟩ := paired_cons h₂
  cases paired_nil hnil
  exact ins_do X hi ho k (r.ext (Keeps.ext k)) hz hu hl
end
end Mine

end
section
open PySem PySem.W PyProof.Rows PySem.Calls
open PySem.SeqAt PySem.SeqRoads2
set_option Elab.async false
set_option autoImplicit false
namespace Mine
section
variable {prog : Program} {w : World} {hB : Heap} {K : Frag} {F : Fns} {G : Gls} {n fuel : Nat}
variable {nm : Nms} {sl : Sls} {ρ : List Slot} {Wo W : List Addr} {env : Env} {oa : Nat → Addr}

inductive StoS (d : List (List Nat × Sc)) : PV → PV → PV → Prop
  | mk (k : List Nat) (c : Sc) (h : d.length < 1000) : StoS d (.sc (.str k)) (.sc c) (.dctS (d ++ [(k, c)]))
inductive StoP (p : Nat) (cs : List Int) (a b : Int) : PV → PV → PV → Prop
  | one (v : Int) : StoP p cs a b (.sc (.int 1)) (.sc (.int v)) (.pen p cs v b)
  | two (v : Int) : StoP p cs a b (.sc (.int 2)) (.sc (.int v)) (.pen p cs a v)
theorem store_inv {p k v p' : PV} (hg : store p k v = some p') : (∃ d, p = .dctS d ∧ StoS d k v p') ∨ ∃ q cs a b, p = .pen q cs a b ∧ StoP q cs a b k v p' := by
  rcases one_some hg with ⟨d, hd, h1⟩ | h1
  · obtain ⟨kl, rfl, h2⟩ := onS_last h1
    obtain ⟨c, rfl, h3⟩ := onC_last h2
    obtain ⟨hd', h4⟩ := if_some h3
    cases h4
    exact .inl ⟨d, ds_eq hd, ⟨kl, c, hd'⟩⟩
  · clear hg
    obtain ⟨z, hz, h2⟩ := one_last h1
    clear h1
    obtain ⟨kk, rfl, h3⟩ := onI_last h2
    clear h2
    obtain ⟨vv, rfl, h4⟩ := onI_last h3
    clear h3
    refine .inr ⟨_, _, _, _, p_eq hz, ?_⟩
    by_cases e1 : kk = 1
    · subst e1
      rw [if_pos rfl] at h4; cases h4; exact .one _
    · rw [if_neg e1] at h4
      obtain ⟨rfl, h5⟩ := if_some h4
      cases h5; exact .two _
theorem lookup_cons_str {x : Str} {kl : List Nat} {c : Sc} {r : List (List Nat × Sc)} : List.lookup x.cps.toList ((kl, c) :: r) = if x = (⟨kl.toArray⟩ : Str) then some c else r.lookup x.cps.toList := by
  rw [List.lookup_cons]
  by_cases e : x = (⟨kl.toArray⟩ : Str)
  · rw [if_pos e]; subst e; simp
  · rw [if_neg e]
    have : (x.cps.toList == kl) = false := by
      rw [beq_eq_false_iff_ne]
      intro q
      apply e
      rw [← q]
    rw [this]
theorem setd_dict {A : Around} {s s₁ : Shared} {E : Value → Shared → Prop} {i : Nat} {x : Str} {d : List (List Nat × Sc)} {kv u : Value} {k' v' p' : PV} (X : Sx prog w hB nm sl ρ Wo W env oa s.heap) (hi : sl[i]? = some (some x)) (ho : ρ[i]? = some (.own (.dctS d))) (k : Keeps s s₁)
    (r : Rep prog w (Wo ++ but W (oa i)) s₁.heap (.dctS d) (.ref (oa i))) (hk : Rep prog w (Wo ++ W) s₁.heap k' kv) (hu : Rep prog w (Wo ++ W) s₁.heap v' u) (hg : StoS d k' v' p') :
    wpAny (model prog w) A (setItem (.ref (oa i)) kv u) (fun _ s' => Post prog w hB nm sl Wo W env s (ρ.set i (.own p')) .next .next s') E s₁ := by
  obtain ⟨a, kvs, ea, ha, hs, hdo, hle, hval⟩ := r
  cases ea
  induction hg with
  | mk kl c hd =>
  have hu : Sc.of u = some c := hu
  obtain ⟨t, rfl, hkl⟩ := of_str hk
  refine wpAny_setItem_pairs (knd := PySem.strKind prog w) (k := ⟨kl.toArray⟩) (by simp [PySem.strKind, Value.isStrOf]) hdo (fun h' hm sb => ?_) (Nat.le_trans (Nat.le_trans hle (Nat.le_of_lt hd)) (by rw [sizeLine_eq]; decide))
  refine post_change (p' := .dctS _) X k hi ho sb ⟨oa i, _, rfl, ha, hs, hm, ?_, fun x => ?_⟩ (by obtain ⟨o, _, _, hx, _⟩ := hm; exact ⟨o, hx⟩) _
  · rw [List.length_append]
    exact Nat.le_trans (stored_length_le _ _ _) (Nat.succ_le_succ hle)
  · rw [valueAt_stored, List.reverse_append]
    show _ = (List.lookup x.cps.toList ((kl, c) :: d.reverse)).map some
    rw [lookup_cons_str]
    split
    · rw [Option.map_some, hu]; rfl
    · exact hval x
theorem setd_pen {A : Around} {s s₁ : Shared} {E : Value → Shared → Prop} {i : Nat} {x : Str} {q : Nat} {cs : List Int} {a b : Int} {kv u : Value} {k' v' p' : PV} (X : Sx prog w hB nm sl ρ Wo W env oa s.heap) (hi : sl[i]? = some (some x)) (ho : ρ[i]? = some (.own (.pen q cs a b))) (k : Keeps s s₁)
    (r : Rep prog w (Wo ++ but W (oa i)) s₁.heap (.pen q cs a b) (.ref (oa i))) (hk : Rep prog w (Wo ++ W) s₁.heap k' kv) (hu : Rep prog w (Wo ++ W) s₁.heap v' u) (hg : StoP q cs a b k' v' p') :
    wpAny (model prog w) A (setItem (.ref (oa i)) kv u) (fun _ s' => Post prog w hB nm sl Wo W env s (ρ.set i (.own p')) .next .next s') E s₁ := by
  obtain ⟨c, its, t, u', ea, ha, hl, hc, hne, ⟨n, hlc⟩, hm, hle⟩ := r
  cases ea
  induction hg with
  | one v =>
    obtain ⟨tk, rfl⟩ := of_int hk
    obtain ⟨tv, rfl⟩ := of_int hu
    refine wpAny_setItem_list hl (by decide) (by decide) (by simp) fun h' hl' sb => ?_
    exact post_change (p' := .pen _ _ _ _) X k hi ho sb ⟨c, its, tv, u', rfl, ha, hl', hc, hne, ⟨n, sb_mv sb c _ hne hlc⟩, hm, hle⟩ (by obtain ⟨o, hx, _⟩ := hl'; exact ⟨o, hx⟩) _
  | two v =>
    obtain ⟨tk, rfl⟩ := of_int hk
    obtain ⟨tv, rfl⟩ := of_int hu
    refine wpAny_setItem_list hl (by decide) (by decide) (by simp) fun h' hl' sb => ?_
    exact post_change (p' := .pen _ _ _ _) X k hi ho sb ⟨c, its, t, tv, rfl, ha, hl', hc, hne, ⟨n, sb_mv sb c _ hne hlc⟩, hm, hle⟩ (by obtain ⟨o, hx, _⟩ := hl'; exact ⟨o, hx⟩) _
theorem plain_swaps {v t x : PySem.Expr} {sp : Pos} {line : Nat} (h : plainTo v = true) : swapsWith v (some (.Subscript t x sp)) line env = pure false := by
  cases v <;> first | rfl | exact ft h
theorem st_setd (T : Sys prog w hB K F G n) (i : Nat) (ke e : E) : StP prog w hB F G n fuel (.setd i ke e) := by
  intro x nm sl ρ ρ' o Wo W env oa A s E h he X R
  replace h := set_inv h
  replace he := set_ex he
  induction h with
  | mk x px kx sp v pos h1 hi h3 h4 h5 h6 =>
  induction he with
  | mk q p kv p' hq ho hk hg =>
  refine wpAny_Assign_Subscript (wpAny_mono (ev_ok T e _ _ _ _ _ _ _ _ _ _ _ E h6 hq X.cx R) (fun u s₁ h₁ => ?_) fun _ _ e => e) (plain_swaps h4)
  have X₁ := sx_pm X h₁.1
  obtain ⟨l, -, r⟩ := X₁.own i x p hi ho
  refine load_ok l X.st.fn h1 ?_
  refine wpAny_mono (ev_ok T ke _ _ _ _ _ _ _ _ _ _ _ E h5 hk X₁.cx R) (fun kv s₂ h₂ => ?_) fun _ _ e => e
  rcases store_inv hg with ⟨d, rfl, hs⟩ | ⟨_, _, _, _, rfl, hs⟩
  · exact setd_dict X hi ho (Keeps.trans h₁.1 h₂.1) (r.ext (Keeps.ext h₂.1)) h₂.2 (h₁.2.ext (Keeps.ext h₂.1)) hs
  · exact setd_pen X hi ho (Keeps.trans h₁.1 h₂.1) (r.ext (Keeps.ext h₂.1)) h₂.2 (h₁.2.ext (Keeps.ext h₂.1)) hs

inductive UnpG (nm : Nms) (sl : Sls) : List Nat → List PySem.Expr → List Sc → List Value → List Slot → List Slot → Prop
  | nil (ρ : List Slot) : UnpG nm sl [] [] [] [] ρ ρ
  | cons (i : Nat) (is : List Nat) (x : Str) (px : Pos) (ts : List PySem.Expr) (c : Sc) (l : List Sc) (v : Value) (vs : List Value) (ρ ρ' : List Slot) (h1 : kdL nm x = true) (h2 : sl[i]? = some (some x)) (h3 : Sc.of v = some c)
      (r : UnpG nm sl is ts l vs (ρ.set i (.val (.sc c))) ρ') : UnpG nm sl (i :: is) (.Name x px :: ts) (c :: l) (v :: vs) ρ ρ'
theorem unpG_of : ∀ (is : List Nat) (ts : List PySem.Expr) (l : List Sc) (vs : List Value) (ρ ρ' : List Slot), nameTs nm sl is ts = true → unpackTo is l ρ = some ρ' → vs.map Sc.of = l.map some → UnpG nm sl is ts l vs ρ ρ' := by
  intro is
  induction is with
  | nil =>
    intro ts l vs ρ ρ' hn hu hv
    cases List.isEmpty_iff.mp hn
    rcases l with _ | ⟨c, r⟩
    ·
      cases hu; cases List.map_eq_nil_iff.mp hv; exact .nil ρ
    ·
      exact ns hu
  | cons i is ih =>
    intro ts l vs ρ ρ' hn hu hv
    rcases ts with _ | ⟨t, ts⟩
    ·
      exact ft hn
    ·
      rcases l with _ | ⟨c, l⟩
      ·
        exact ns hu
      ·
        cases vs with
        | nil => exact nomatch hv
        | cons v vs =>
          replace hv := List.cons.inj hv
          replace hn := any2_e hn
          induction hn with | mk x px g1 =>
          obtain ⟨h1, h2, h3⟩ := and_t3 g1
          exact .cons i is x px ts c l v vs ρ ρ' h1 (slIs_eq h2) hv.1 (ih ts l vs _ ρ' h3 hu hv.2)
theorem unpack_go {A : Around} {E : Value → Shared → Prop} {is : List Nat} {ts : List PySem.Expr} {l : List Sc} {vs : List Value} {ρ ρ' : List Slot} (U : UnpG nm sl is ts l vs ρ ρ') : ∀ {s : Shared},
    Sx prog w hB nm sl ρ Wo W env oa s.heap → wpAny (model prog w) A (assignInOrder ((assignEach ts env).map (·.2)) vs) (fun _ s' => Fr W s s' ∧ Sx prog w hB nm sl ρ' Wo W env oa s'.heap) E s := by
  induction U with
  | nil ρ => exact fun X => wpAny_pure ⟨Fr.refl _ _, X⟩
  | cons i is x px ts c l v vs ρ ρ' h1 hi hv _ ih =>
    intro s X
    show wpAny (model prog w) A (do holding vs (assign (.Name x px) env v); assignInOrder ((assignEach ts env).map (·.2)) vs) _ E s
    refine wpAny_bind (wpAny_holding (wpAny_assign_Name (store_ok X h1 fun t h' tk B => ?_)))
    exact wpAny_mono (ih (s := { s with heap := h', toks := tk }) (X.bindV hi B (p := .sc c) hv)) (fun _ s' h => ⟨(B.fr X).trans (Grow.refl _ _) h.1, h.2⟩) fun _ _ e => e

theorem assignEach_len : ∀ (is : List Nat) (ts : List PySem.Expr), nameTs nm sl is ts = true → (assignEach ts env).length = is.length ∧ (assignEach ts env).findIdx? (·.1) = none := by
  intro is
  induction is with
  | nil =>
    intro ts h
    replace h := List.isEmpty_iff.mp h
    cases h
    exact ⟨rfl, rfl⟩
  | cons i is ih =>
    intro ts h
    cases ts with
    | nil => exact ft h
    | cons t ts =>
      replace h := any2_e h
      induction h with | mk x px g1 =>
      obtain ⟨e1, e2⟩ := ih ts (and_t (and_t g1).2).2
      refine ⟨congrArg Nat.succ e1, ?_⟩
      show List.findIdx? (·.1) ((false, assign (.Name x px) env) :: assignEach ts env) = none
      rw [List.findIdx?_cons, e2]; rfl

theorem unpackTo_len : ∀ (is : List Nat) (l : List Sc) (ρ ρ' : List Slot), unpackTo is l ρ = some ρ' → l.length = is.length := by
  intro is
  induction is with
  | nil => intro l ρ ρ' h; cases l with
    | nil => rfl
    | cons _ _ => exact ns h
  | cons i is ih => intro l ρ ρ' h; cases l with
    | nil => exact ns h
    | cons c l => exact congrArg Nat.succ (ih l _ _ h)

theorem ite5 {α : Type} {c1 c2 c3 c4 c5 : Prop} [Decidable c1] [Decidable c2] [Decidable c3] [Decidable c4] [Decidable c5] {a x y : α} (h1 : ¬c1) (h2 : ¬c2) (h3 : ¬c3) (h4 : ¬c4) (h5 : ¬c5) :
    (if c1 then a else if c2 then a else if c3 then a else if c4 then a else if c5 then x else y) = y := by
  rw [if_neg h1, if_neg h2, if_neg h3, if_neg h4, if_neg h5]
theorem noStar_no : ∀ {l : List PySem.Expr}, noStar l = true → ¬ ((l.any fun x => match x with | .Starred .. => true | _ => false) = true)
  | [], _ => fun h => nomatch h
  | x :: r, h => by
    obtain ⟨e, hr⟩ : (fun x : PySem.Expr => match x with | .Starred .. => true | _ => false) x = false ∧ noStar r = true := by
      cases x <;> first | exact ⟨rfl, h⟩ | exact ft h
    rw [List.any_cons]
    exact fun q => (or_t q).elim (fun q => ft (e.symm.trans q)) (noStar_no hr)
theorem two_names {x y : Str} {p q : Pos} {f : PySem.Expr → Option Str} (h1 : f (.Name x p) = some x) (h2 : f (.Name y q) = some y) : List.filterMap f [.Name x p, .Name y q] = [x, y] := by
  rw [List.filterMap_cons_some h1, List.filterMap_cons_some h2]; rfl
theorem dups_two {x y : Str} (h : (x == y) = false) : [x, y].eraseDups = [x, y] := by
  have h : y ≠ x := fun e => by rw [e, beq_self_eq_true] at h; exact ft h.symm
  simp [List.eraseDups_cons, h]
theorem names_diff {l : List Str} {n : Nat} (h1 : l.length = n) (h2 : l.eraseDups = l) : ¬ ((l.length != n || l.eraseDups.length != l.length) = true) := by
  rw [h2, h1, bne_self_eq_false]
  exact fun h => nomatch h
theorem swapped_some {x y : Str} {p q : Pos} {a b : PySem.Expr} {k1 k2 : Nat} {tp vp : Pos} (S : Stt nm sl env) (h : swTo nm [.Name x p, .Name y q] (.Tuple [a, b] k1 vp) = true) : swappedStores [.Tuple [.Name x p, .Name y q] k2 tp] (.Tuple [a, b] k1 vp) env = pure (some [x, y]) := by
  replace h := and_t7 h
  obtain ⟨h1, h2, h3, h4, h5, h6, h7⟩ := h
  have e1 := S.kind x _ (kdIs_eq h1)
  have e2 := S.kind y _ (kdIs_eq h2)
  have hn := two_names (f := fun e => match e with
    | .Name id pos => if (env.kindOf id == some .local && pos.line == p.line) = true then some id else none
    | _ => none) (p := p) (q := q) (if_pos (by rw [e1, beq_self_eq_true, beq_self_eq_true]; rfl) : (if (env.kindOf x == some .local && p.line == p.line) = true then some x else none) = some x)
      (if_pos (by rw [e2]; exact h3) : (if (env.kindOf y == some .local && q.line == p.line) = true then some y else none) = some y)
  unfold swappedStores
  refine (ite5 ?_ (noStar_no h5) ?_ (by rw [not_t h6]; exact fun h => nomatch h) (by rw [not_t h7]; exact fun h => nomatch h)).trans (congrArg (fun l => pure (some l)) hn)
  · show ¬ ((env.blockKind != .function) = true)
    unfold Env.blockKind
    rw [S.fn]; exact fun h => nomatch h
  · exact names_diff (congrArg List.length hn) (by
      refine (congrArg List.eraseDups hn).trans ((dups_two ?_).trans hn.symm)
      rw [seq_beq]; exact not_t h4)

theorem wpAny_assignStores_two {M : Model} {A : Around} {s : Shared} {E : Value → Shared → Prop} {Q : Flow → Shared → Prop} {v : Value} {x y : Str} {st : List (Value → Sem Unit)}
    (h : wpAny M A (unpackItems v 2 none) (fun items s₁ => wpAny M A (assignInOrder [bindName env y, bindName env x] items.reverse) (fun _ s₂ => Q .next s₂) E s₁) E s) : wpAny M A (assignStores env v (some [x, y]) st) Q E s := by
  unfold assignStores
  exact wpAny_bind (wpAny_rule (wpAny_bind (wpAny_mono h (fun _ _ h₁ => wpAny_bind (wpAny_mono h₁ (fun _ _ h₂ => wpAny_pure h₂) fun _ _ e => e)) fun _ _ e => e)))
theorem wpAny_assignInOrder_two {M : Model} {A : Around} {s : Shared} {E : Value → Shared → Prop} {Q : Unit → Shared → Prop} {u v : Value} {x y : Str}
    (h : wpAny M A (storeName env y v) (fun _ s₁ => wpAny M A (storeName env x u) Q E s₁) E s) : wpAny M A (assignInOrder [bindName env y, bindName env x] [v, u]) Q E s := by
  unfold assignInOrder
  refine wpAny_bind (wpAny_holding (wpAny_bindName (wpAny_mono h (fun _ _ h₁ => ?_) fun _ _ e => e)))
  unfold assignInOrder
  refine wpAny_bind (wpAny_holding (wpAny_bindName (wpAny_mono h₁ (fun _ _ h₂ => ?_) fun _ _ e => e)))
  unfold assignInOrder
  exact wpAny_pure h₂

theorem kx_of {s : Shared} {h' : Heap} (hx : Heap.ExtBut s.heap.objs.size s.heap h') : Keeps s { s with heap := h' } := Keeps.mk' (t := s.toks) fun b o e => hx b o (fun q => by rw [q, fresh_none] at e; cases e) e
theorem plain_stores {ts : List PySem.Expr} {k0 : Nat} {tp : Pos} {v : PySem.Expr} (h : plainTo v = true) : swappedStores [.Tuple ts k0 tp] v env = pure none := by
  rcases v with _ | _ <;> first | rfl | skip
  rename_i vs k1 vp
  have h2 : vs.all (foldedForSure 8) = true := h
  unfold swappedStores
  simp only [h2]
  simp only [if_true, ite_self]
theorem sole_pure {ts : List PySem.Expr} {k0 : Nat} {tp : Pos} {v : PySem.Expr} {line : Nat} : swapsWithSole [.Tuple ts k0 tp] v line env = pure false := by
  show swapsWith v (some (.Tuple ts k0 tp)) line env = pure false
  cases v <;> rfl
theorem unp_plain {A : Around} {s s₁ : Shared} {E : Value → Shared → Prop} {is : List Nat} {ts : List PySem.Expr} {k0 : Nat} {tp : Pos} {l : List Sc} {v : Value} {ρ' : List Slot} (X : Sx prog w hB nm sl ρ Wo W env oa s.heap) (R : Room n A) (k : Keeps s s₁)
    (h1 : nameTs nm sl is ts = true) (hu : unpackTo is l ρ = some ρ') (hv : RepTup Wo s₁.heap l v) : wpAny (model prog w) A (assign (.Tuple ts k0 tp) env v) (fun _ s' => Post prog w hB nm sl Wo W env s ρ' .next .next s') E s₁ := by
  obtain ⟨t, items, rfl, ht, hit, hm⟩ := hv
  obtain ⟨el, ef⟩ := assignEach_len (env := env) is ts h1
  refine wpAny_assign_Tuple R.1 hit (by rw [el, ← unpackTo_len _ _ _ _ hu, ← of_map_len hm, Array.length_toList]) ef fun h' hx => ?_
  refine wpAny_mono (unpack_go (unpG_of is ts l items.toList ρ _ h1 hu hm) (s := { s₁ with heap := h' }) (sx_pm (sx_pm X k) (kx_of hx))) (fun _ s₂ h₂ => ?_) fun _ _ e => e
  exact ⟨W, oa, Grow.refl _ _, (Fr.keeps (Keeps.trans k (kx_of hx))).trans (Grow.refl _ _) h₂.1, h₂.2, .next⟩
inductive ISwp (nm : Nms) : List PySem.Expr → PySem.Expr → Prop
  | mk (x : Str) (p : Pos) (y : Str) (q : Pos) (a b : PySem.Expr) (k : Nat) (vp : Pos) (h : swTo nm [.Name x p, .Name y q] (.Tuple [a, b] k vp) = true) : ISwp nm [.Name x p, .Name y q] (.Tuple [a, b] k vp)
theorem swp_inv {ts : List PySem.Expr} {v : PySem.Expr} (h : swTo nm ts v = true) : ISwp nm ts v := by
  have hW := h
  replace h := any2_e h
  induction h with | mk t1 t2 g =>
  replace g := any2_e g
  induction g with | mk x p g =>
  replace g := any2_e g
  induction g with | mk y q g =>
  replace g := any3_e g
  induction g with | mk vs k1 vp g =>
  replace g := any2_e g
  induction g with | mk a b g => exact ⟨x, p, y, q, a, b, k1, vp, hW⟩
theorem swp_names {x y : Str} {p q : Pos} {a b : PySem.Expr} {k1 : Nat} {vp : Pos} (h : swTo nm [.Name x p, .Name y q] (.Tuple [a, b] k1 vp) = true) : seq x y = false :=
  not_t (and_t (and_t (and_t (and_t h).2).2).2).1
inductive UnpTwo (sl : Sls) (nm : Nms) (x y : Str) (ρ : List Slot) : List Nat → List Sc → List Slot → Prop
  | mk (i j : Nat) (c d : Sc) (h1 : kdL nm x = true) (h2 : sl[i]? = some (some x)) (h3 : kdL nm y = true) (h4 : sl[j]? = some (some y)) : UnpTwo sl nm x y ρ [i, j] [c, d] ((ρ.set i (.val (.sc c))).set j (.val (.sc d)))
theorem two_inv {x y : Str} {p q : Pos} {is : List Nat} {l : List Sc} {ρ' : List Slot} (h1 : nameTs nm sl is [.Name x p, .Name y q] = true) (hu : unpackTo is l ρ = some ρ') : UnpTwo sl nm x y ρ is l ρ' := by
  rcases is with _ | ⟨i, is⟩
  ·
    exact ft h1
  ·
    rcases is with _ | ⟨j, is⟩
    ·
      exact ft (and_t (and_t h1).2).2
    ·
      rcases is with _ | ⟨_, _⟩
      ·
        rcases l with _ | ⟨c, l⟩
        ·
          exact ns hu
        ·
          rcases l with _ | ⟨d, l⟩
          ·
            exact ns hu
          ·
            rcases l with _ | ⟨_, _⟩
            ·
              obtain ⟨g1, g2, g3, g4, -⟩ := and_t5 (show (kdL nm x && (slIs sl i x && (kdL nm y && (slIs sl j y && true)))) = true from h1)
              cases hu
              exact ⟨i, j, c, d, g1, slIs_eq g2, g3, slIs_eq g4⟩
            ·
              exact ns hu
      ·
        exact ft (and_t (and_t (and_t (and_t h1).2).2).2).2
theorem two_vals {items : Array Value} {c d : Sc} (h : items.toList.map Sc.of = [c, d].map some) : ∃ u v, items = ⟨[u, v]⟩ ∧ Sc.of u = some c ∧ Sc.of v = some d := by
  obtain ⟨l⟩ := items
  rcases l with _ | ⟨u, l⟩
  ·
    exact nomatch h
  ·
    rcases l with _ | ⟨v, l⟩
    ·
      exact nomatch (List.cons.inj h).2
    ·
      rcases l with _ | ⟨_, _⟩
      ·
        exact ⟨u, v, rfl, (List.cons.inj h).1, (List.cons.inj (List.cons.inj h).2).1⟩
      ·
        exact nomatch (List.cons.inj (List.cons.inj h).2).2
theorem unp_swap {A : Around} {s s₁ : Shared} {E : Value → Shared → Prop} {is : List Nat} {x y : Str} {l : List Sc} {v : Value} {ρ' : List Slot} {st : List (Value → Sem Unit)} (X : Sx prog w hB nm sl ρ Wo W env oa s.heap) (R : Room n A) (k : Keeps s s₁)
    (U : UnpTwo sl nm x y ρ is l ρ') (hne : seq x y = false) (hv : RepTup Wo s₁.heap l v) : wpAny (model prog w) A (assignStores env v (some [x, y]) st) (fun fl s' => Post prog w hB nm sl Wo W env s ρ' .next fl s') E s₁ := by
  obtain ⟨t, items, rfl, ht, hit, hm⟩ := hv
  induction U with
  | mk i j c d g1 hi g3 hj =>
  obtain ⟨u, v, rfl, hc, hd⟩ := two_vals hm
  have hij : j ≠ i := by
    rintro rfl
    rw [hi] at hj; cases hj
    rw [← seq_beq] at hne; simp at hne
  have hun : ∀ (Q : List Value → Shared → Prop), (∀ h', Heap.ExtBut s₁.heap.objs.size s₁.heap h' → Q [u, v] { s₁ with heap := h' }) → wpAny (model prog w) A (unpackItems (.ref t) 2 none) Q E s₁ :=
    fun Q hQ => wpAny_unpackItems_tuple (items := ⟨[u, v]⟩) R.1 hit hQ
  refine wpAny_assignStores_two (hun _ fun h' hx => ?_)
  have X₂ := sx_pm (sx_pm X k) (kx_of hx)
  refine wpAny_assignInOrder_two (store_ok X₂ g3 fun t2 h2 tk2 B2 => ?_)
  have X₃ := X₂.bindV hj B2 (p := .sc d) hd
  refine store_ok (s := { s₁ with heap := h2, toks := tk2 }) X₃ g1 fun t3 h3 tk3 B3 => ?_
  refine ⟨W, oa, Grow.refl _ _, ((Fr.keeps (Keeps.trans k (kx_of hx))).trans (Grow.refl _ _) (B2.fr X₂)).trans (Grow.refl _ _) (B3.fr (s := { s₁ with heap := h2, toks := tk2 }) X₃), ?_, .next⟩
  rw [List.set_comm _ _ (Ne.symm hij)]
  exact X₃.bindV hi B3 (p := .sc c) hc
theorem st_unpack (T : Sys prog w hB K F G n) (is : List Nat) (e : E) : StP prog w hB F G n fuel (.unpack is e) := by
  intro x nm sl ρ ρ' o Wo W env oa A s E h he X R
  replace h := unp_inv h
  replace he := unp_ex he
  induction h with
  | mk ts k0 tp v pos h1 h2 h3 =>
  induction he with
  | mk l _ hp hu =>
  have hev := ev_ok T e _ _ _ _ _ _ _ _ _ _ _ E h3 hp X.cx R
  rcases h2 with h2 | h2
  · exact wpAny_Assign_stores (wpAny_mono hev (fun v s₁ h₁ => show wpAny (model prog w) A (assign (.Tuple ts k0 tp) env v) _ E s₁ from unp_plain X R h₁.1 h1 hu h₁.2) fun _ _ e => e) sole_pure (plain_stores h2)
  · cases swp_inv h2 with
    | mk x p y q a b k1 vp hW =>
    rw [exec_Assign_arm]
    refine wpAny_bind (wpAny_standAt ?_)
    rw [sole_pure]
    refine wpAny_bind (wpAny_pure ?_)
    rw [if_neg (by decide)]
    refine wpAny_bind (wpAny_mono hev (fun v s₁ h₁ => ?_) fun _ _ x => x)
    rw [swapped_some (k2 := k0) (tp := tp) X.st hW]
    exact wpAny_bind (wpAny_pure (unp_swap X R h₁.1 (two_inv h1 hu) (swp_names hW) h₁.2))
end
end Mine

end
section
open PySem PySem.W PyProof.Rows PySem.Calls
open PySem.SeqAt PySem.SeqRoads2
set_option Elab.async false
set_option autoImplicit false
namespace Mine
section
variable {prog : Program} {w : World} {hB : Heap} {K : Frag} {F : Fns} {G : Gls} {n fuel : Nat}
variable {nm : Nms} {sl : Sls} {ρ : List Slot} {Wo W : List Addr} {env : Env} {oa : Nat → Addr}

theorem Post.after {s s₁ s₂ : Shared} {ρ' : List Slot} {o : Out} {fl : Flow} {W' : List Addr} (g : Grow W W' s.heap) (f : Fr W s s₁) (p : Post prog w hB nm sl Wo W' env s₁ ρ' o fl s₂) : Post prog w hB nm sl Wo W env s ρ' o fl s₂ := by
  obtain ⟨W₂, oa₂, g₂, f₂, X, ho⟩ := p
  exact ⟨W₂, oa₂, g.trans f g₂, f.trans g f₂, X, ho⟩
theorem Post.keeps {s s₁ s₂ : Shared} {ρ' : List Slot} {o : Out} {fl : Flow} (k : Keeps s s₁) (p : Post prog w hB nm sl Wo W env s₁ ρ' o fl s₂) : Post prog w hB nm sl Wo W env s ρ' o fl s₂ :=
  p.after (Grow.refl _ _) (Fr.keeps k)

theorem bk_nil : BkP prog w hB F G n fuel .nil := by
  intro x nm sl ρ ρ' o Wo W env oa A s E h he X R
  rcases x with _ | ⟨a, r⟩
  ·
    cases he
    exact wpAny_execs_nil ⟨W, oa, Grow.refl _ _, Fr.refl _ _, X, .next⟩
  ·
    exact ft h
inductive XCons (F : Fns) (G : Gls) (fuel : Nat) (ρ : List Slot) (c : S) (r : Ss) : List Slot → Out → Prop
  | next (ρ₁ : List Slot) (h : Mine.exec F G fuel ρ c = some (ρ₁, .next)) (ρ' : List Slot) (o : Out) (h2 : Mine.execs F G fuel ρ₁ r = some (ρ', o)) : XCons F G fuel ρ c r ρ' o
  | out (ρ₁ : List Slot) (o : Out) (hn : o ≠ .next) (h : Mine.exec F G fuel ρ c = some (ρ₁, o)) : XCons F G fuel ρ c r ρ₁ o
theorem cons_ex {c : S} {r : Ss} {ρ' : List Slot} {o : Out} (he : Mine.execs F G fuel ρ (.cons c r) = some (ρ', o)) : XCons F G fuel ρ c r ρ' o := by
  obtain ⟨⟨ρ₁, o₁⟩, h₁, he⟩ := bind_s he
  induction o₁ with
  | next => exact .next ρ₁ h₁ _ _ he
  | brk => cases he; exact .out _ _ (fun e => nomatch e) h₁
  | cont => cases he; exact .out _ _ (fun e => nomatch e) h₁
  | ret p => cases he; exact .out _ _ (fun e => nomatch e) h₁
theorem bk_cons {c : S} {r : Ss} (i : StP prog w hB F G n fuel c) (ir : BkP prog w hB F G n fuel r) : BkP prog w hB F G n fuel (.cons c r) := by
  intro x nm sl ρ ρ' o Wo W env oa A s E h he X R
  rcases x with _ | ⟨a, x⟩
  ·
    exact ft h
  ·
    replace h := and_t h
    cases cons_ex he with
    | next ρ₁ h₁ _ _ h₂ =>
      refine wpAny_execs_cons (wpAny_mono (i _ _ _ _ _ _ _ _ _ _ _ _ E h.1 h₁ X R) (fun fl s₁ p => ?_) fun _ _ e => e)
      obtain ⟨W', oa', g, f, X', ho⟩ := p
      cases ho
      exact wpAny_mono (ir _ _ _ _ _ _ _ _ _ _ _ _ E h.2 h₂ X' R) (fun fl s₂ p => p.after g f) fun _ _ e => e
    | out _ _ hn h₁ =>
      refine wpAny_execs_cons (wpAny_mono (i _ _ _ _ _ _ _ _ _ _ _ _ E h.1 h₁ X R) (fun fl s₁ p => ?_) fun _ _ e => e)
      have ho := p
      obtain ⟨_, _, _, _, _, ho⟩ := ho
      induction ho with
      | next => exact (hn rfl).elim
      | _ => exact p

theorem st_if (T : Sys prog w hB K F G n) {c : E} {a b : Ss} (ia : BkP prog w hB F G n fuel a) (ib : BkP prog w hB F G n fuel b) : StP prog w hB F G n fuel (.iff c a b) := by
  intro x nm sl ρ ρ' o Wo W env oa A s E h he X R
  replace h := if_inv h
  induction h with
  | mk t x y pos h1 h2 h3 =>
  replace he := bind_s he
  obtain ⟨t, ht, he⟩ := he
  refine wpAny_If (wpAny_mono (ts_ok T c _ _ _ _ _ _ _ _ _ _ E h1 ht X.cx R) (fun b' s₁ h₁ => ?_) fun _ _ e => e)
  obtain ⟨rfl, k⟩ := h₁
  induction b' with
  | true => exact wpAny_mono (ia _ _ _ _ _ _ _ _ _ _ _ _ E h2 he (sx_pm X k) R) (fun fl s₂ p => p.keeps k) fun _ _ e => e
  | false => exact wpAny_mono (ib _ _ _ _ _ _ _ _ _ _ _ _ E h3 he (sx_pm X k) R) (fun fl s₂ p => p.keeps k) fun _ _ e => e

theorem st_ret (T : Sys prog w hB K F G n) (e : E) : StP prog w hB F G n fuel (.ret e) := by
  intro x nm sl ρ ρ' o Wo W env oa A s E h he X R
  replace h := any2_e h
  induction h with | mk v pos g1 =>
  replace he := map_s he
  obtain ⟨p, hp, he⟩ := he
  cases he
  exact wpAny_Return_some (wpAny_mono (ev_ok T e _ _ _ _ _ _ _ _ _ _ _ E g1 hp X.cx R) (fun v s₁ h₁ => ⟨W, oa, Grow.refl _ _, Fr.keeps h₁.1, sx_pm X h₁.1, .ret _ _ h₁.2⟩) fun _ _ e => e)
theorem drop_ex {e : E} {ρ' : List Slot} {o : Out} (he : Mine.exec F G fuel ρ (.drop e) = some (ρ', o)) : ∃ c, ev F G false ρ e = some (.sc c) ∧ ρ' = ρ ∧ o = .next := by
  obtain ⟨c, h1, h2⟩ := map_s he
  obtain ⟨p, hp, hc⟩ := bind_s h1
  cases h2
  exact ⟨c, by rw [hp, c_eq hc], rfl, rfl⟩
theorem st_drop (T : Sys prog w hB K F G n) (e : E) : StP prog w hB F G n fuel (.drop e) := by
  intro x nm sl ρ ρ' o Wo W env oa A s E h he X R
  replace h := any2_e h
  induction h with | mk v pos g1 =>
  replace g1 := and_t g1
  obtain ⟨g2, h⟩ := g1
  replace g2 := any3_e g2
  induction g2 with | mk f as cp _ =>
  obtain ⟨c, hp, rfl, rfl⟩ := drop_ex he
  exact wpAny_Expr (wpAny_mono (ev_ok T e _ _ _ _ _ _ _ _ _ _ _ E h hp X.cx R) (fun v s₁ h₁ => by
    induction v with
    | ref a => exact nomatch h₁.2
    | _ => exact ⟨W, oa, Grow.refl _ _, Fr.keeps h₁.1, sx_pm X h₁.1, .next⟩) fun _ _ e => e) (by unfold interactive; rw [X.st.fn]; rfl) rfl
theorem st_cont : StP prog w hB F G n fuel .cont := by
  intro x nm sl ρ ρ' o Wo W env oa A s E h he X R
  replace h := any1_e h
  induction h with | mk pos _ =>
  cases he
  exact wpAny_Continue ⟨W, oa, Grow.refl _ _, Fr.refl _ _, X, .cont⟩
theorem st_brk : StP prog w hB F G n fuel .brk := by
  intro x nm sl ρ ρ' o Wo W env oa A s E h he X R
  replace h := any1_e h
  induction h with | mk pos _ =>
  cases he
  exact wpAny_Break ⟨W, oa, Grow.refl _ _, Fr.refl _ _, X, .brk⟩
theorem st_try {b : Ss} (ib : BkP prog w hB F G n fuel b) : StP prog w hB F G n fuel (.try_ b) := by
  intro x nm sl ρ ρ' o Wo W env oa A s E h he X R
  replace h := yTry_e h
  induction h with | mk b' h0 r0 pos g1 =>
  refine wpAny_Try_except (wpAny_mono (ib _ _ _ _ _ _ _ _ _ _ _ _ _ g1 he X R) (fun fl s₁ p => ?_) fun _ _ e => e)
  induction fl with
  | next => exact wpAny_execs_nil p
  | _ => exact p

/-! ## loops -/
section
variable {test : List Slot → Option Bool} {body : List Slot → Option (List Slot × Out)}
/-- a turn of a loop: it goes on, or it ends -/
inductive Turn (go : List Slot → Option (List Slot × Out)) (body : Option (List Slot × Out)) (ρ' : List Slot) (o : Out) : Prop
  | next (ρ₂ : List Slot) (h : body = some (ρ₂, .next)) (k : go ρ₂ = some (ρ', o))
  | cont (ρ₂ : List Slot) (h : body = some (ρ₂, .cont)) (k : go ρ₂ = some (ρ', o))
  | brk (h : body = some (ρ', .brk)) (e : o = .next)
  | ret (p : PV) (h : body = some (ρ', .ret p)) (e : o = .ret p)
theorem turn_of {go : List Slot → Option (List Slot × Out)} {x : Option (List Slot × Out)} {ρ' : List Slot} {o : Out}
    (h : (x.bind fun q => match q.2 with
      | .next | .cont => go q.1
      | .brk => some (q.1, .next)
      | .ret p => some (q.1, .ret p)) = some (ρ', o)) : Turn go x ρ' o := by
  obtain ⟨⟨ρ₂, o₂⟩, h1, h2⟩ := bind_s h
  induction o₂ with
  | next => exact .next ρ₂ h1 h2
  | cont => exact .cont ρ₂ h1 h2
  | brk => cases h2; exact .brk h1 rfl
  | ret p => cases h2; exact .ret p h1 rfl
end
inductive WSt (prog : Program) (w : World) (hB : Heap) (nm : Nms) (sl : Sls) (Wo W : List Addr) (env : Env) (s : Shared) (go : Nat → List Slot → Option (List Slot × Out)) (ρ' : List Slot) (o : Out) (k : Nat) (s' : Shared) : Prop
  | mk (ρ₁ : List Slot) (W' : List Addr) (oa' : Nat → Addr) (h : go k ρ₁ = some (ρ', o)) (g : Grow W W' s.heap) (f : Fr W s s') (X : Sx prog w hB nm sl ρ₁ Wo W' env oa' s'.heap)
theorem st_while (T : Sys prog w hB K F G n) {c : E} {b : Ss} (ib : BkP prog w hB F G n fuel b) : StP prog w hB F G n fuel (.whil c b) := by
  intro x nm sl ρ ρ' o Wo W env oa A s E h he X R
  replace h := whl_inv h
  induction h with
  | mk t y pos h1 h2 =>
  refine wpAny_While (codeAny_whileLoop (WSt prog w hB nm sl Wo W env s (whileGo (fun ρ => tst F G ρ c) (fun ρ => Mine.execs F G fuel ρ b)) ρ' o) ?_ fuel ⟨ρ, W, oa, he, Grow.refl _ _, Fr.refl _ _, X⟩)
  clear he X
  rintro k s' ⟨ρ₁, W', oa', hw, g, f, X'⟩
  rcases k with _ | k
  ·
    exact ns hw
  ·
    replace hw := bind_s hw
    obtain ⟨t, ht, hw⟩ := hw
    refine wpAny_mono (ts_ok T c _ _ _ _ _ _ _ _ _ _ _ h1 ht X'.cx R) (fun b' s₁ h₁ => ?_) fun _ _ e => e
    obtain ⟨rfl, kp⟩ := h₁
    induction b' with
    | false =>
      cases hw
      exact wpAny_execs_nil ⟨W', oa', g, f.trans g (Fr.keeps kp), sx_pm X' kp, .next⟩
    | true =>
      have go : ∀ {ρ₂ : List Slot} {o₂ : Out} (R' : Flow → Shared → Prop), Mine.execs F G fuel ρ₁ b = some (ρ₂, o₂) → (∀ fl s₂ W₂ oa₂, Grow W W₂ s.heap → Fr W s s₂ → Sx prog w hB nm sl ρ₂ Wo W₂ env oa₂ s₂.heap → OutOk prog w Wo s₂.heap o₂ fl → R' fl s₂) →
          ∀ {E}, wpAny (model prog w) A (PySem.execs y env) R' E s₁ := fun R' hb hR => wpAny_mono (ib _ _ _ _ _ _ _ _ _ _ _ _ _ h2 hb (sx_pm X' kp) R) (fun fl s₂ p => by
        obtain ⟨W₂, oa₂, g₂, f₂, X₂, ho⟩ := p.keeps kp
        exact hR fl s₂ W₂ oa₂ (g.trans f g₂) (f.trans g f₂) X₂ ho) fun _ _ e => e
      replace hw := turn_of hw
      induction hw with
      | next ρ₂ hb hw => exact go _ hb fun fl s₂ W₂ oa₂ gg ff X₂ ho => by cases ho; exact ⟨k, Nat.lt_succ_self k, ρ₂, W₂, oa₂, hw, gg, ff, X₂⟩
      | cont ρ₂ hb hw => exact go _ hb fun fl s₂ W₂ oa₂ gg ff X₂ ho => by cases ho; exact ⟨k, Nat.lt_succ_self k, ρ₂, W₂, oa₂, hw, gg, ff, X₂⟩
      | brk hb e => subst e; exact go _ hb fun fl s₂ W₂ oa₂ gg ff X₂ ho => by cases ho; exact ⟨W₂, oa₂, gg, ff, X₂, .next⟩
      | ret q hb e => subst e; exact go _ hb fun fl s₂ W₂ oa₂ gg ff X₂ ho => by cases ho with | ret _ v r => exact ⟨W₂, oa₂, gg, ff, X₂, .ret _ _ r⟩

theorem Grow.cons {W W' : List Addr} {h : Heap} (I : Addr) (g : Grow W W' h) : Grow (I :: W) (I :: W') h := ⟨fun a ha => by
    rcases List.mem_cons.mp ha with rfl | ha
    · exact List.mem_cons_self
    · exact List.mem_cons_of_mem _ (g.1 a ha), fun a ha => by
    rcases List.mem_cons.mp ha with rfl | ha
    · exact .inl List.mem_cons_self
    · rcases g.2 a ha with q | q
      · exact .inl (List.mem_cons_of_mem _ q)
      · exact .inr q⟩
theorem Fr.cons {W : List Addr} {s s' : Shared} (I : Addr) (f : Fr W s s') : Fr (I :: W) s s' := by
  obtain ⟨h, t, rfl, e⟩ := f
  exact ⟨h, t, rfl, fun b o hb x => e b o (fun q => hb (List.mem_cons_of_mem _ q)) x⟩
theorem Grow.back {W W' : List Addr} {h h' : Heap} (g : Grow W W' h') (e : Ext h h') : Grow W W' h := ⟨g.1, fun a ha => (g.2 a ha).imp id fun q => by
  cases x : h.get? a with
  | none => rfl
  | some o => rw [e _ _ x] at q; cases q⟩
/-- what was not there may have moved -/
theorem Fr.back {W : List Addr} {I : Addr} {s s₂ s' : Shared} (k : Keeps s s₂) (hI : s.heap.get? I = none) (f : Fr (I :: W) s₂ s') : Fr W s s' := by
  obtain ⟨h₃, t₃, rfl, e₃⟩ := f
  obtain ⟨h₄, t₄, rfl, e₄⟩ := k
  refine ⟨h₃, t₃, rfl, fun b o hb e => e₃ b o (fun hm => ?_) (e₄ b o e)⟩
  rcases List.mem_cons.mp hm with rfl | hm
  · rw [hI] at e; cases e
  · exact hb hm
theorem Grow.more {W W' W₂ : List Addr} {I : Addr} {s₂ s₄ : Shared} (g : Grow W W' s₂.heap) (f : Fr (I :: W) s₂ s₄) (hI : ∃ o, s₄.heap.get? I = some o) (g₂ : Grow W' W₂ s₄.heap) : Grow W W₂ s₂.heap := by
  refine ⟨fun a ha => g₂.1 a (g.1 a ha), fun a ha => ?_⟩
  rcases g₂.2 a ha with q | q
  · exact g.2 a q
  · cases e : s₂.heap.get? a with
    | none => exact .inr rfl
    | some o =>
      by_cases hw : a ∈ W
      · exact .inl hw
      · exfalso
        by_cases hwi : a = I
        · obtain ⟨o, ho⟩ := hI
          rw [hwi, ho] at q; cases q
        · rw [f.at' a o (fun hm => (List.mem_cons.mp hm).elim hwi hw) e] at q; cases q
theorem none_back {s s' : Shared} {a : Addr} (k : Keeps s s') (h : s'.heap.get? a = none) : s.heap.get? a = none := by
  cases q : s.heap.get? a with
  | none => rfl
  | some o => rw [Keeps.ext k _ _ q] at h; cases h
theorem drop_next {xs : List Sc} {c : Sc} {j : Nat} (hc : xs[j]? = some c) : xs.drop j = c :: xs.drop (j + 1) := by
  obtain ⟨hlt, e⟩ := List.getElem?_eq_some_iff.mp hc
  rw [List.drop_eq_getElem_cons hlt, e]
inductive FSt (prog : Program) (w : World) (hB : Heap) (nm : Nms) (sl : Sls) (Wo W : List Addr) (env : Env) (s : Shared) (I : Addr) (St : Nat → Heap → Prop) (go : List Sc → List Slot → Option (List Slot × Out)) (xs : List Sc) (ρ' : List Slot) (o : Out) (k : Nat) (s' : Shared) : Prop
  | mk (j : Nat) (ρ₁ : List Slot) (W' : List Addr) (oa' : Nat → Addr) (hj : j ≤ xs.length) (e : k = xs.length - j + 1) (h : go (xs.drop j) ρ₁ = some (ρ', o)) (g : Grow W W' s.heap) (f : Fr (I :: W) s s')
      (X : Sx prog w hB nm sl ρ₁ (I :: Wo) W' env oa' s'.heap) (st : St j s'.heap)
theorem OutOk.less {Wo Wo' : List Addr} {h : Heap} {o : Out} {fl : Flow} (k : OutOk prog w Wo h o fl) (e : ∀ a, a ∈ Wo' → a ∈ Wo) : OutOk prog w Wo' h o fl := by
  induction k with
  | ret p v r => exact .ret p v (r.less e)
  | next => exact .next
  | brk => exact .brk
  | cont => exact .cont
/-- the end of a loop's walk -/
theorem for_fin {s s₂ s' : Shared} {I : Addr} {ρ' : List Slot} {o : Out} {fl : Flow} {W' : List Addr} {oa' : Nat → Addr} (k : Keeps s s₂) (hI : s.heap.get? I = none) (g : Grow W W' s₂.heap) (f : Fr (I :: W) s₂ s') (X : Sx prog w hB nm sl ρ' Wo W' env oa' s'.heap)
    (ho : OutOk prog w Wo s'.heap o fl) : Post prog w hB nm sl Wo W env s ρ' o fl s' := ⟨W', oa', g.back (Keeps.ext k), f.back k hI, X, ho⟩
/-- one step of the iterator -/
theorem for_step {s₂ s' : Shared} {I : Addr} {h' : Heap} {W' : List Addr} {oa' : Nat → Addr} (tk : Nat) (hIW : I ∉ W') (g : Grow W W' s₂.heap) (f : Fr (I :: W) s₂ s') (X : Sx prog w hB nm sl ρ (I :: Wo) W' env oa' s'.heap)
    (hk : ∀ b o, b ∉ [I] → s'.heap.get? b = some o → h'.get? b = some o) : Fr (I :: W) s₂ { s' with heap := h', toks := tk } ∧ (∀ Wo', (∀ a ∈ Wo', a ∈ I :: Wo) → (I ∈ Wo' → ∃ o, h'.get? I = some o) → Sx prog w hB nm sl ρ Wo' W' env oa' h') := by
  refine ⟨f.trans (g.cons I) ⟨h', tk, rfl, fun b o hb e => hk b o (fun q => hb (by rw [List.mem_singleton.mp q]; exact List.mem_cons_self)) e⟩, fun Wo' hs hI => X.frame hk (fun b hb => ?_) hs fun b hb hm => ?_⟩
  · rw [List.mem_singleton.mp hb]; exact ⟨List.mem_cons_self, hIW⟩
  · rw [List.mem_singleton.mp hb] at hm ⊢; exact hI hm
theorem for_body {A : Around} {s s₂ s' : Shared} {I : Addr} {fp : List Addr} {St : Nat → Heap → Prop} {xs : List Sc} {i j : Nat} {x : Str} {b : Ss} {y : List Stmt} {ρ' : List Slot} {o : Out} {W' : List Addr} {oa' : Nat → Addr} {px : Pos} {E : Value → Shared → Prop}
    (ib : BkP prog w hB F G n fuel b) (R : Room n A) (hi : sl[i]? = some (some x)) (h1 : kdL nm x = true) (h5 : isSs nm sl b y = true) (k : Keeps s s₂) (hIs : s.heap.get? I = none) (hfV : ∀ b ∈ fp, b = I ∨ b ∉ Wo ++ W ∧ ∃ o, s₂.heap.get? b = some o)
    (frame : ∀ (j : Nat) (h₁ h₂ : Heap), St j h₁ → (∀ b ∈ fp, ∀ o, h₁.get? b = some o → h₂.get? b = some o) → St j h₂) (hIW : I ∉ W') (g : Grow W W' s₂.heap) (hj : j < xs.length) {c : Sc} {v : Value} (hc : xs[j]? = some c) (hsc : Sc.of v = some c)
    (hgo : forGo (fun ρ => Mine.execs F G fuel ρ b) i (xs.drop j) ρ = some (ρ', o)) (f₃ : Fr (I :: W) s₂ s') (X₃ : Sx prog w hB nm sl ρ (I :: Wo) W' env oa' s'.heap) (st' : St (j + 1) s'.heap) :
    wpAny (model prog w) A (assign (.Name x px) env v) (fun _ s₄ => wpAny (model prog w) A (PySem.execs y env) (fun fl s₅ => match fl with
      | .next | .cont => ∃ m, m < xs.length - j + 1 ∧ FSt prog w hB nm sl Wo W env s₂ I St (forGo (fun ρ => Mine.execs F G fuel ρ b) i) xs ρ' o m s₅
      | .brk => Post prog w hB nm sl Wo W env s ρ' o .next s₅
      | .ret v => Post prog w hB nm sl Wo W env s ρ' o (.ret v) s₅) E s₄) E s' := by
  rw [drop_next hc] at hgo
  refine wpAny_assign_Name (store_ok X₃ h1 fun t h₄ tk₄ B => ?_)
  have X₄ := X₃.bindV hi B (p := .sc c) hsc
  have f₄ : Fr (I :: W) s₂ { s' with heap := h₄, toks := tk₄ } := f₃.trans (g.cons I) ((B.fr X₃).cons I)
  have go : ∀ {ρ₂ : List Slot} {o₂ : Out} (R' : Flow → Shared → Prop), Mine.execs F G fuel (ρ.set i (.val (.sc c))) b = some (ρ₂, o₂) → (∀ fl s₅ W₂ oa₂, Grow W W₂ s₂.heap → Fr (I :: W) s₂ s₅ → Sx prog w hB nm sl ρ₂ (I :: Wo) W₂ env oa₂ s₅.heap → St (j + 1) s₅.heap → OutOk prog w (I :: Wo) s₅.heap o₂ fl → R' fl s₅) →
      wpAny (model prog w) A (PySem.execs y env) R' E { s' with heap := h₄, toks := tk₄ } := fun R' hb hR => wpAny_mono (ib _ _ _ _ _ _ _ _ _ _ _ { s' with heap := h₄, toks := tk₄ } _ h5 hb X₄ R) (fun fl s₅ p => by
    obtain ⟨W₂, oa₂, g₂, f₂, X₅, ho⟩ := p
    refine hR fl s₅ W₂ oa₂ (g.more f₄ (X₄.live I List.mem_cons_self) g₂) (f₄.trans (g.cons I) (f₂.cons I)) X₅ (frame _ _ _ st' fun b hb o e => f₂.at' b o ?_ ((B.fr (tk := tk₄) X₃).at' b o ?_ e)) ho
    all_goals
      intro hm
      rcases hfV b hb with rfl | ⟨q, o', ho'⟩
      · exact hIW hm
      · rcases g.2 b hm with z | z
        · exact q (List.mem_append_right _ z)
        · rw [ho'] at z; cases z) fun _ _ e => e
  have lt : xs.length - (j + 1) + 1 < xs.length - j + 1 := by omega (splitDisjunctions := true)
  replace hgo := turn_of hgo
  induction hgo with
  | next ρ₂ hb hw => exact go _ hb fun fl s₅ W₂ oa₂ gg ff X₅ st ho => by cases ho; exact ⟨_, lt, j + 1, ρ₂, W₂, oa₂, hj, rfl, hw, gg, ff, X₅, st⟩
  | cont ρ₂ hb hw => exact go _ hb fun fl s₅ W₂ oa₂ gg ff X₅ st ho => by cases ho; exact ⟨_, lt, j + 1, ρ₂, W₂, oa₂, hj, rfl, hw, gg, ff, X₅, st⟩
  | brk hb e => subst e; exact go _ hb fun fl s₅ W₂ oa₂ gg ff X₅ st ho => by cases ho; exact for_fin k hIs gg ff X₅.lessO .next
  | ret q hb e => subst e; exact go _ hb fun fl s₅ W₂ oa₂ gg ff X₅ st ho => by cases ho with | ret _ v r => exact for_fin k hIs gg ff X₅.lessO (.ret _ _ (r.less fun a ha => List.mem_cons_of_mem _ ha))
theorem st_for (T : Sys prog w hB K F G n) {i : Nat} {e : E} {b : Ss} (ib : BkP prog w hB F G n fuel b) : StP prog w hB F G n fuel (.for_ i e b) := by
  intro x nm sl ρ ρ' o Wo W env oa A s E h he X R
  replace h := for_inv h
  induction h with
  | mk x px it y pos h1 hi h3 h4 h5 =>
  replace he := bind_s he
  obtain ⟨p, hp, he⟩ := he
  replace he := bind_s he
  obtain ⟨xs, hx, he⟩ := he
  refine wpAny_For (wpAny_mono (ev_ok T e _ _ _ _ _ _ _ _ _ _ _ E h4 hp X.cx R) (fun v s₁ h₁ => ?_) fun _ _ e => e) (folded_ok h3)
  obtain ⟨k₁, h₁⟩ := h₁
  refine wpAny_mono (iter_ok hx h₁) (fun itv s₂ h₂ => ?_) fun _ _ e => e
  obtain ⟨k₂, I, fp, P, St, rfl, Wk, hst, hfp, hI, hIo, hfV, hP⟩ := h₂
  have hIs := none_back k₁ hI
  have X₂ : Sx prog w hB nm sl ρ (I :: Wo) W env oa s₂.heap := (sx_pm X k₁).moreO hI (Keeps.ext k₂) (hIo _ _ hst)
  have hIW : ∀ {W'}, Grow W W' s₂.heap → I ∉ W' := fun {W'} g hm => by
    rcases g.2 I hm with q | q
    · obtain ⟨o, ho⟩ := X.live I (List.mem_append_right _ q)
      rw [hIs] at ho; cases ho
    · obtain ⟨o, ho⟩ := hIo _ _ hst; rw [q] at ho; cases ho
  refine codeAny_forLoop (FSt prog w hB nm sl Wo W env s₂ I St (forGo (fun ρ => Mine.execs F G fuel ρ b) i) xs ρ' o) ?_ (xs.length + 1) ⟨0, ρ, W, oa, Nat.zero_le _, rfl, he, Grow.refl _ _, Fr.refl _ _, X₂, hst⟩
  clear he X₂
  rintro kk s' ⟨j, ρ₁, W', oa', hj, rfl, hgo, g, f, X', st⟩
  by_cases hlt : j < xs.length
  · refine (Wk A R.1).item j s' _ _ hlt st fun v h' tk hPv st' hk => ?_
    obtain ⟨f₃, X₃⟩ := for_step tk (hIW g) g f X' hk
    obtain ⟨c, hc, hsc⟩ := hP j v hPv
    exact for_body ib R hi h1 h5 (Keeps.trans k₁ k₂) hIs (fun b hb => (hfV b hb).imp id fun q => ⟨q.1, let ⟨o, ho⟩ := q.2; ⟨o, Keeps.ext k₂ _ _ ho⟩⟩) (Wk A R.1).frame (hIW g) g hlt hc hsc hgo f₃ (X₃ (I :: Wo) (fun _ h => h) fun _ => hIo _ _ st') st'
  · have hje : j = xs.length := by omega
    subst hje
    refine (Wk A R.1).done s' _ _ st fun h' tk hk => wpAny_execs_nil ?_
    rw [List.drop_length] at hgo
    cases hgo
    obtain ⟨f₃, X₃⟩ := for_step tk (hIW g) g f X' hk
    exact for_fin (Keeps.trans k₁ k₂) hIs g f₃ (X₃ Wo (fun a ha => List.mem_cons_of_mem _ ha) fun hm => by
      obtain ⟨o, ho⟩ := X.live I (List.mem_append_left _ hm)
      rw [hIs] at ho; cases ho) .next

mutual
theorem st_ok (T : Sys prog w hB K F G n) : ∀ c : S, StP prog w hB F G n fuel c
  | .assign i e => st_assign T i e
  | .new i es => st_new T i es
  | .newD i => st_newD T i
  | .unpack is e => st_unpack T is e
  | .append i e => st_append T i e
  | .extend i e => st_extend T i e
  | .insert0 i e => st_insert T i e
  | .setd i k e => st_setd T i k e
  | .iff _ a b => st_if T (bk_ok T a) (bk_ok T b)
  | .whil _ b => st_while T (bk_ok T b)
  | .for_ _ _ b => st_for T (bk_ok T b)
  | .ret e => st_ret T e
  | .drop e => st_drop T e
  | .cont => st_cont
  | .brk => st_brk
  | .try_ b => st_try (bk_ok T b)
  | .raise => fun x nm sl ρ ρ' o Wo W env oa A s E _ he _ _ => by cases he
theorem bk_ok (T : Sys prog w hB K F G n) : ∀ c : Ss, BkP prog w hB F G n fuel c
  | .nil => bk_nil
  | .cons a r => bk_cons (st_ok T a) (bk_ok T r)
end
end
end Mine

end
section
open PySem PySem.W PyProof.Rows PySem.Calls
open PySem.SeqAt PySem.SeqRoads2
set_option Elab.async false
set_option autoImplicit false
namespace Mine

theorem filterMap_zip : ∀ {names : List Str} {vals : List Value}, names.Nodup → names.length = vals.length → names.filterMap (fun n => ((names.zip vals).lookup n).map (n, ·)) = names.zip vals
  | [], [], _, _ => rfl
  | a :: r, v :: vs, h, e => by
    have h' := List.nodup_cons.mp h
    have ih := filterMap_zip (names := r) (vals := vs) h'.2 (by simpa using e)
    have e0 : ((a :: r).zip (v :: vs)).lookup a = some v := by rw [List.zip_cons_cons, List.lookup_cons]; simp
    rw [List.filterMap_cons, e0]
    simp only [Option.map_some]
    rw [List.zip_cons_cons]
    congr 1
    have key : ∀ l : List Str, (∀ x ∈ l, x ∈ r) → l.filterMap (fun n => (List.lookup n ((a, v) :: r.zip vs)).map (n, ·)) = l.filterMap (fun n => ((r.zip vs).lookup n).map (n, ·)) := by
      intro l
      induction l with
      | nil => intro _; rfl
      | cons x l ihl =>
        intro hx
        have : (x == a) = false := by rw [beq_eq_false_iff_ne]; rintro rfl; exact h'.1 (hx _ List.mem_cons_self)
        rw [List.filterMap_cons, List.filterMap_cons, List.lookup_cons, this, ihl fun y hy => hx y (List.mem_cons_of_mem _ hy)]
    exact (key r fun _ h => h).trans ih
theorem lookup_zip_some {n : Str} : ∀ {names : List Str} {vals : List Value}, names.length = vals.length → n ∈ names → ((names.zip vals).lookup n).isSome = true
  | [], _, _, h => by cases h
  | a :: r, v :: vs, e, h => by
    rw [List.zip_cons_cons, List.lookup_cons]
    cases q : n == a with
    | true => rfl
    | false =>
      replace h := List.mem_cons.mp h
      rcases h with rfl | h
      · simp at q
      · exact lookup_zip_some (by simpa using e) h
  | _ :: _, [], e, _ => by cases e

noncomputable def plainPars (p : Arguments) : Bool := p.posonlyargs.isEmpty && (p.vararg.isNone && (p.kwonlyargs.isEmpty && p.kwarg.isNone))
theorem wpAny_no {α : Type} {M : Model} {A : Around} {E : Value → Shared → Prop} {s : Shared} {Q : α → Shared → Prop} {c : Prop} [Decidable c] {t e : Sem α} (h : ¬c) (k : wpAny M A e Q E s) : wpAny M A (if c then t else e) Q E s := by
  rw [if_neg h]; exact k
theorem no_miss {α : Type} {l : List α} (h : l = []) : ¬ ((!l.isEmpty) = true) := by
  subst h; exact fun h => nomatch h
/-- the parameters' defaults, put in -/
noncomputable def putD (slots : List (Str × Value)) (x : Str × Value) : List (Str × Value) := if (slots.lookup x.1).isNone = true then slots ++ [x] else slots
theorem put_ok {M : Model} {A : Around} {E : Value → Shared → Prop} {f : Str × Value → List (Str × Value) → Sem (ForInStep (List (Str × Value)))} (hf : ∀ x sl, f x sl = pure (.yield (putD sl x))) {s : Shared} {Q : List (Str × Value) → Shared → Prop} : ∀ {l : List (Str × Value)} {sl : List (Str × Value)}, Q (l.foldl putD sl) s → wpAny M A (forIn l sl f) Q E s
  | [], _, h => wpAny_pure h
  | x :: l, sl, h => by
    rw [List.forIn_cons, hf]
    exact wpAny_bind (wpAny_pure (put_ok hf h))
theorem bind_gen {s : Shared} {fd : FuncData} {names : List Str} {vals : List Value} {items : Option (Array Value)} {binds : List (Str × Value)} (hp : plainPars fd.params = true) (hn : fd.params.args.map (·.arg) = names)
    (hd : ∀ (M : Model) (A : Around) (E : Value → Shared → Prop) (Q : Option (Array Value) → Shared → Prop), Q items s → wpAny M A (seqItems? fd.defaults) Q E s)
    (h1 : vals.length ≤ names.length) (h2 : (names.take (names.length - ((items.getD #[]).toList.drop ((items.getD #[]).toList.length - names.length)).length)).filter (fun n => ((names.zip vals).lookup n).isNone) = [])
    (h3 : (names ++ []).filterMap (fun n => ((((names.drop (names.length - ((items.getD #[]).toList.drop ((items.getD #[]).toList.length - names.length)).length)).zip ((items.getD #[]).toList.drop ((items.getD #[]).toList.length - names.length))).foldl putD (names.zip vals)).lookup n).map (n, ·)) = binds) : BindsTo s fd ⟨vals, []⟩ binds := by
  intro M A E Q hq
  subst h3 hn
  unfold bindArgs
  generalize fd.params = P at *
  obtain ⟨po, ar, va, ko, kd, kw, df⟩ := P
  replace hp := and_t4 hp
  obtain ⟨p1, p2, p3, p4⟩ := hp
  replace p1 := List.isEmpty_iff.mp p1
  replace p2 := isNone_t p2
  replace p3 := List.isEmpty_iff.mp p3
  replace p4 := isNone_t p4
  dsimp only at p1 p2 p3 p4
  subst p1 p2 p3 p4
  refine wpAny_bind (wpAny_pure (wpAny_bind (hd _ _ _ _ (wpAny_no ?_ (wpAny_no ?_ (wpAny_bind (put_ok ?_ (wpAny_bind (wpAny_pure (wpAny_no (fun h => nomatch h) (wpAny_pure hq))))))))))) 
  · rw [Bool.and_eq_true]
    exact fun h => Nat.not_lt_of_le h1 (of_decide_eq_true h.1)
  · exact no_miss h2
  · intro x sl
    show (if _ then _ else _) = pure (ForInStep.yield (if _ then _ else _))
    split <;> rfl
theorem bind_full {s : Shared} {fd : FuncData} {names : List Str} {vals : List Value} {items : Option (Array Value)} (hp : plainPars fd.params = true) (hn : fd.params.args.map (·.arg) = names) (hnd : names.Nodup) (hl : names.length = vals.length)
    (hd : ∀ (M : Model) (A : Around) (E : Value → Shared → Prop) (Q : Option (Array Value) → Shared → Prop), Q items s → wpAny M A (seqItems? fd.defaults) Q E s) (hi : items = none) : BindsTo s fd ⟨vals, []⟩ (names.zip vals) := by
  subst hi
  refine bind_gen hp hn hd (Nat.le_of_eq hl.symm) ?_ ?_
  · show List.filter _ (names.take (names.length - (List.drop (0 - names.length) ([] : List Value)).length)) = []
    rw [List.drop_nil, List.length_nil, Nat.sub_zero, List.take_length, List.filter_eq_nil_iff]
    intro a ha h
    have e := lookup_zip_some hl ha
    rw [isNone_t h] at e
    exact ft e
  · show List.filterMap (fun n => ((((names.drop (names.length - (List.drop (0 - names.length) ([] : List Value)).length)).zip (List.drop (0 - names.length) ([] : List Value))).foldl putD (names.zip vals)).lookup n).map (n, ·)) (names ++ []) = _
    rw [List.drop_nil, List.zip_nil_right, List.append_nil]
    exact filterMap_zip hnd hl
theorem bind_two {s : Shared} {fd : FuncData} {a b : Str} {v u d : Value} (hp : plainPars fd.params = true) (hn : fd.params.args.map (·.arg) = [a, b]) (hnd : [a, b].Nodup)
    (hd : ∀ (M : Model) (A : Around) (E : Value → Shared → Prop) (Q : Option (Array Value) → Shared → Prop), Q (some #[d]) s → wpAny M A (seqItems? fd.defaults) Q E s) : BindsTo s fd ⟨[v, u], []⟩ [(a, v), (b, u)] := by
  have e1 : a ≠ b := by simpa using hnd
  have e2 : (b == a) = false := by rw [beq_eq_false_iff_ne]; exact Ne.symm e1
  refine bind_gen hp hn hd (Nat.le_refl _) ?_ ?_
  · simp [List.lookup_cons]
  · simp [putD, e2, List.lookup_cons]
theorem bind_dfl {s : Shared} {fd : FuncData} {a b : Str} {v d : Value} (hp : plainPars fd.params = true) (hn : fd.params.args.map (·.arg) = [a, b]) (hnd : [a, b].Nodup)
    (hd : ∀ (M : Model) (A : Around) (E : Value → Shared → Prop) (Q : Option (Array Value) → Shared → Prop), Q (some #[d]) s → wpAny M A (seqItems? fd.defaults) Q E s) : BindsTo s fd ⟨[v], []⟩ [(a, v), (b, d)] := by
  have e1 : a ≠ b := by simpa using hnd
  have e2 : (b == a) = false := by rw [beq_eq_false_iff_ne]; exact Ne.symm e1
  refine bind_gen hp hn hd (Nat.le_succ 1) ?_ ?_
  · simp [List.lookup_cons]
  · simp [putD, e2, List.lookup_cons]
theorem seqItems_none {s : Shared} : ∀ (M : Model) (A : Around) (E : Value → Shared → Prop) (Q : Option (Array Value) → Shared → Prop), Q none s → wpAny M A (seqItems? .none) Q E s := fun M A E Q hq => by
  unfold seqItems?
  refine wpAny_bind (wpAny_of_eq (show notAStandIn .none = pure () from rfl) (wpAny_pure hq))
end Mine

end
section
open PySem PySem.W PyProof.Rows PySem.Calls
open PySem.SeqAt PySem.SeqRoads2
set_option Elab.async false
set_option autoImplicit false
namespace Mine

structure FD where
  id : Nat
  np : Nat
  dfl : List Int
  sl : Sls
  body : Ss

noncomputable def strMem (x : Str) : List Str → Bool
  | [] => false
  | y :: r => seq y x || strMem x r
noncomputable def strNd : List Str → Bool
  | [] => true
  | x :: r => !strMem x r && strNd r
theorem strMem_of {x : Str} : ∀ {l : List Str}, strMem x l = false → x ∉ l
  | [], _, h => by cases h
  | y :: r, e, h => by
    simp only [strMem, Bool.or_eq_false_iff] at e
    replace h := List.mem_cons.mp h
    rcases h with rfl | h
    · rw [← seq_beq] at e; simp at e
    · exact strMem_of e.2 h
theorem strNd_of : ∀ {l : List Str}, strNd l = true → l.Nodup
  | [], _ => List.nodup_nil
  | x :: r, e => by
    simp only [strNd, Bool.and_eq_true, Bool.not_eq_true'] at e
    exact List.nodup_cons.mpr ⟨strMem_of e.1, strNd_of e.2⟩
noncomputable def slNames (sl : Sls) : List Str := sl.filterMap fun x => x
theorem slNd_of : ∀ {sl : Sls}, (slNames sl).Nodup → ∀ (i j : Nat) (x : Str), sl[i]? = some (some x) → sl[j]? = some (some x) → i = j
  | [], _, i, j, x, h, _ => by simp at h
  | none :: r, hn, i, j, x, hi, hj => by
    have hn : (slNames r).Nodup := hn
    rcases i with _ | i
    ·
      simp at hi
    ·
      rcases j with _ | j
      ·
        simp at hj
      ·
        rw [slNd_of hn i j x (by simpa using hi) (by simpa using hj)]
  | some y :: r, hn, i, j, x, hi, hj => by
    have hn : (y :: slNames r).Nodup := hn
    replace hn := List.nodup_cons.mp hn
    obtain ⟨h1, h2⟩ := hn
    have mem : ∀ {k : Nat}, r[k]? = some (some x) → x ∈ slNames r := fun hk => List.mem_filterMap.mpr ⟨some x, List.mem_of_getElem? hk, rfl⟩
    rcases i with _ | i
    ·
      rcases j with _ | j
      ·
        rfl
      ·
        simp at hi; subst hi
        exact (h1 (mem (by simpa using hj))).elim
    ·
      cases j with
      | zero =>
        simp at hj; subst hj
        exact (h1 (mem (by simpa using hi))).elim
      | succ j => rw [slNd_of h2 i j x (by simpa using hi) (by simpa using hj)]

noncomputable def parsAre : List Str → Sls → Bool
  | [], _ => true
  | x :: r, sl => match sl with
    | [] => false
    | o :: sl => o.any (seq x) && parsAre r sl
theorem parsAre_of : ∀ {ps : List Str} {sl : Sls}, parsAre ps sl = true → ∀ (i : Nat) (x : Str), ps[i]? = some x → sl[i]? = some (some x) := by
  intro ps
  induction ps with
  | nil => intro sl _ i x h; exact ns h
  | cons y r ih => intro sl e i x h; cases sl with
    | nil => exact ft e
    | cons o sl =>
      replace e := and_t e
      obtain ⟨h1, h2⟩ := e
      replace h1 := any_some h1
      obtain ⟨z, rfl, h1⟩ := h1
      rcases i with _ | i
      ·
        cases h; exact congrArg some (congrArg some (seq_eq h1).symm)
      ·
        exact ih h2 i x h
noncomputable def isFn (k : ScopeKind) : Bool := k == .function
noncomputable def noFree (nm : Nms) : Bool := nm.all fun y => y.2 != .free
theorem noFree_of {x : Str} : ∀ {nm : Nms}, noFree nm = true → nm.lookup x ≠ some .free := by
  intro nm e h
  have := List.all_eq_true.mp e _ (mem_of_lookup h)
  exact ft (by simpa using this)

noncomputable def vI (v : Value) : O2 Value.int v := if h : v.ctorIdx = 4 then @Value.int.elim (O2 Value.int) v h fun i t => O2.mk (K := Value.int) i t else .no
noncomputable def vS (v : Value) : O2 Value.str v := if h : v.ctorIdx = 6 then @Value.str.elim (O2 Value.str) v h fun i t => O2.mk (K := Value.str) i t else .no
noncomputable def vB (v : Value) : O2 Value.bytes v := if h : v.ctorIdx = 7 then @Value.bytes.elim (O2 Value.bytes) v h fun i t => O2.mk (K := Value.bytes) i t else .no
noncomputable def vT (v : Value) : O1 Value.type v := if h : v.ctorIdx = 8 then @Value.type.elim (O1 Value.type) v h fun i => O1.mk (K := Value.type) i else .no
noncomputable def vR (v : Value) : O1 Value.ref v := if h : v.ctorIdx = 10 then @Value.ref.elim (O1 Value.ref) v h fun a => O1.mk (K := Value.ref) a else .no
noncomputable def vNo (v : Value) : O1 (fun _ : Unit => Value.none) v := if h : v.ctorIdx = 0 then @Value.none.elim (O1 (fun _ : Unit => Value.none)) v h (O1.mk (K := fun _ : Unit => Value.none) ()) else .no
noncomputable def dSeq (d : Data) : O2 @Data.seq d := if h : d.ctorIdx = 2 then @Data.seq.elim (O2 @Data.seq) d h fun l e => O2.mk (K := @Data.seq) l e else .no
noncomputable def dFun (d : Data) : O1 Data.func d := if h : d.ctorIdx = 7 then @Data.func.elim (O1 Data.func) d h fun f => O1.mk (K := Data.func) f else .no
noncomputable def bBd (b : FuncBody) : O1 FuncBody.stmts b := if h : b.ctorIdx = 0 then @FuncBody.stmts.elim (O1 FuncBody.stmts) b h fun b => O1.mk (K := FuncBody.stmts) b else .no
noncomputable def oS {α : Type} : (x : Option α) → O1 some x
  | some a => O1.mk (K := some) a
  | none => .no
noncomputable def dflChk (K : Frag) (dfl : List Int) (np : Nat) (v : Value) : Bool := match dfl with
  | [] => any1 (vNo v) fun _ => true
  | k :: r => r.isEmpty && (Nat.beq np 2 && any1 (vR v) fun a => (K.lookup a).any fun o => any2 (dSeq o.data) fun its _ => any1 (oneL its.toList) fun x => any2 (vI x) fun i _ => decide (i = k))
inductive GDfl (K : Frag) (np : Nat) : List Int → Value → Prop
  | no : GDfl K np [] .none
  | one (k : Int) (t : Tok) (a : Addr) (o : Obj) (n : Nat) (e : np = 2) (h1 : K.lookup a = some o) (h2 : o.data = .seq #[.int k t] n) : GDfl K np [k] (.ref a)
theorem dfl_seq {l : Array Value} {k : Int} (h : (any1 (oneL l.toList) fun x => any2 (vI x) fun i _ => decide (i = k)) = true) : ∃ t, l = #[.int k t] := by
  generalize e : l.toList = z at h
  replace h := any1_e h
  induction h with | mk x h =>
  replace h := any2_e h
  induction h with | mk i t h =>
  cases of_decide_eq_true h
  exact ⟨t, Array.ext' e⟩
theorem dflChk_inv {K : Frag} {dfl : List Int} {np : Nat} {v : Value} (h : dflChk K dfl np v = true) : GDfl K np dfl v := by
  rcases dfl with _ | ⟨k, r⟩
  · replace h := any1_e h
    induction h with | mk _ _ => exact .no
  · replace h := and_t3 h
    obtain ⟨h1, h2, h⟩ := h
    cases List.isEmpty_iff.mp h1
    replace h := any1_e h
    induction h with | mk a h =>
    obtain ⟨o, ho, h⟩ := any_some h
    generalize e : o.data = y at h
    replace h := any2_e h
    induction h with | mk its n h =>
    obtain ⟨t, rfl⟩ := dfl_seq h
    exact .one k t a o n (Nat.eq_of_beq_eq_true h2) ho e
noncomputable def fdChk0 (K : Frag) (d : FD) (fd : FuncData) : Bool :=
  true && fd.closure.isEmpty && !fd.scope.isCoroutine && !fd.scope.isGenerator && isFn fd.scope.kind && Nat.beq fd.globals mainGlobals && Nat.beq fd.builtins builtinsNs &&
  plainPars fd.params && parsAre (fd.params.args.map (·.arg)) d.sl && Nat.beq fd.params.args.length d.np && strNd (fd.params.args.map (·.arg)) && strNd (slNames d.sl) && noFree fd.scope.names &&
  strNd ((cellsFrom 0 fd.scope.names []).map (·.1)) && (fd.params.args.map (·.arg)).all (kdL fd.scope.names) && codeIn K fd.code fd.qualname && dflChk K d.dfl d.np fd.defaults && Nat.ble d.np d.sl.length
inductive FOk (K : Frag) (d : FD) (fd : FuncData) : Prop
  | mk (c2 : fd.closure = []) (c3 : fd.scope.isCoroutine = false) (c4 : fd.scope.isGenerator = false) (c5 : fd.scope.kind = .function) (c6 : fd.globals = mainGlobals) (c7 : fd.builtins = builtinsNs)
    (c8 : plainPars fd.params = true) (c9 : parsAre (fd.params.args.map (·.arg)) d.sl = true) (c10 : fd.params.args.length = d.np) (c11 : strNd (fd.params.args.map (·.arg)) = true) (c12 : strNd (slNames d.sl) = true) (c13 : noFree fd.scope.names = true)
    (c14 : strNd ((cellsFrom 0 fd.scope.names []).map (·.1)) = true) (c15 : (fd.params.args.map (·.arg)).all (kdL fd.scope.names) = true) (c16 : codeIn K fd.code fd.qualname = true) (c17 : dflChk K d.dfl d.np fd.defaults = true) (c18 : d.np ≤ d.sl.length) : FOk K d fd
theorem andR {a b : Bool} (h : (a && b) = true) : b = true := (and_t h).2
theorem andL {a b : Bool} (h : (a && b) = true) : a = true := (and_t h).1
theorem f_ok {K : Frag} {d : FD} {fd : FuncData} (h : fdChk0 K d fd = true) : FOk K d fd := by
  unfold fdChk0 at h
  exact ⟨List.isEmpty_iff.mp (andR (andL (andL (andL (andL (andL (andL (andL (andL (andL (andL (andL (andL (andL (andL (andL (andL h))))))))))))))))), not_t (andR (andL (andL (andL (andL (andL (andL (andL (andL (andL (andL (andL (andL (andL (andL (andL h)))))))))))))))), not_t (andR (andL (andL (andL (andL (andL (andL (andL (andL (andL (andL (andL (andL (andL (andL h))))))))))))))), eq_of_beq (andR (andL (andL (andL (andL (andL (andL (andL (andL (andL (andL (andL (andL (andL h)))))))))))))), Nat.eq_of_beq_eq_true (andR (andL (andL (andL (andL (andL (andL (andL (andL (andL (andL (andL (andL h))))))))))))), Nat.eq_of_beq_eq_true (andR (andL (andL (andL (andL (andL (andL (andL (andL (andL (andL (andL h)))))))))))), andR (andL (andL (andL (andL (andL (andL (andL (andL (andL (andL h)))))))))), andR (andL (andL (andL (andL (andL (andL (andL (andL (andL h))))))))), Nat.eq_of_beq_eq_true (andR (andL (andL (andL (andL (andL (andL (andL (andL h))))))))), andR (andL (andL (andL (andL (andL (andL (andL h))))))), andR (andL (andL (andL (andL (andL (andL h)))))), andR (andL (andL (andL (andL (andL h))))), andR (andL (andL (andL (andL h)))), andR (andL (andL (andL h))), andR (andL (andL h)), andR (andL h), Nat.le_of_ble_eq_true (andR h)⟩
noncomputable def fdChk (K : Frag) (d : FD) (fd : FuncData) (b : List Stmt) : Bool := isSs fd.scope.names d.sl d.body b && fdChk0 K d fd
/-- a top name's function, seen -/
noncomputable def fnAt (K : Frag) (d : FD) (f : FuncData → List Stmt → Bool) : Bool :=
  any1 (oS (nsIn K mainGlobals (fnm d.id))) fun x => any1 (oS x) fun v => any1 (vR v) fun a => (K.lookup a).any fun o => any1 (dFun o.data) fun fd => any1 (bBd fd.body) fun b => f fd b
inductive GFn (K : Frag) (d : FD) (f : FuncData → List Stmt → Bool) : Prop
  | mk (a : Addr) (o : Obj) (fd : FuncData) (b : List Stmt) (h1 : nsIn K mainGlobals (fnm d.id) = some (some (.ref a))) (h2 : K.lookup a = some o) (h3 : o.data = .func fd) (h4 : fd.body = .stmts b) (g : f fd b = true)
theorem fnAt_e {K : Frag} {d : FD} {f : FuncData → List Stmt → Bool} (h : fnAt K d f = true) : GFn K d f := by
  unfold fnAt at h
  generalize e1 : nsIn K mainGlobals (fnm d.id) = x at h
  replace h := any1_e h
  induction h with | mk x h =>
  replace h := any1_e h
  induction h with | mk v h =>
  replace h := any1_e h
  induction h with | mk a h =>
  obtain ⟨o, ho, h⟩ := any_some h
  generalize e2 : o.data = y at h
  replace h := any1_e h
  induction h with | mk fd h =>
  generalize e3 : fd.body = z at h
  replace h := any1_e h
  induction h with | mk b h => exact ⟨a, o, fd, b, e1, ho, e2, e3, h⟩
noncomputable def fnChk (K : Frag) (d : FD) : Bool := fnAt K d (fdChk K d)

noncomputable def FD.run (d : FD) (F : Fns) (G : Gls) (fuel : Nat) (args : List PV) : Option PV :=
  if args.length = d.np then runFn F G fuel (d.sl.length - d.np) d.body args
  else if args.length = 1 ∧ d.np = 2 ∧ d.dfl.length = 1 then runFn F G fuel (d.sl.length - d.np) d.body (args ++ d.dfl.map fun i => .sc (.int i)) else none

theorem cellsFrom_has {x : Str} : ∀ (names : Nms) (n : Nat) (acc : List (Str × Addr)), ((acc.lookup x).isSome = true ∨ names.lookup x = some .cell) → ((cellsFrom n names acc).lookup x).isSome = true
  | [], n, acc, h => by
    rcases h with h | h
    · exact h
    · cases h
  | (y, k) :: r, n, acc, h => by
    have up : ∀ a, ((acc.lookup x).isSome = true) → (((y, a) :: acc).lookup x).isSome = true := fun a q => by
      rw [List.lookup_cons]; split <;> first | rfl | exact q
    unfold cellsFrom
    split
    · rename_i hk
      apply cellsFrom_has
      rcases h with h | h
      · exact .inl (up _ h)
      · rw [List.lookup_cons] at h
        cases q : x == y with
        | true => left; rw [List.lookup_cons, q]; rfl
        | false => rw [q] at h; exact .inr h
    · rename_i hk
      apply cellsFrom_has
      rcases h with h | h
      · exact .inl h
      · rw [List.lookup_cons] at h
        cases q : x == y with
        | true => rw [q] at h; simp only [Option.some.injEq] at h; subst h; exact (hk rfl).elim
        | false => rw [q] at h; exact .inr h

section
variable {kindOf : Str → Option NameKind}
theorem bindL_not {x : Str} : ∀ {binds : List (Str × Value)} {m : Str → Option Value}, x ∉ binds.map (·.1) → bindL kindOf binds m x = m x
  | [], _, _ => rfl
  | (n, v) :: r, m, h => by
    simp only [List.map_cons, List.mem_cons, not_or] at h
    rw [bindL, bindL_not h.2]
    split
    · simp [h.1]
    · rfl
theorem bindC_not {x : Str} : ∀ {binds : List (Str × Value)} {m : Str → Option Value}, x ∉ binds.map (·.1) → bindC kindOf binds m x = m x
  | [], _, _ => rfl
  | (n, v) :: r, m, h => by
    simp only [List.map_cons, List.mem_cons, not_or] at h
    rw [bindC, bindC_not h.2]
    split
    · rfl
    · simp [h.1]
theorem bindL_at {x : Str} {v : Value} (hk : kindOf x = some .local) : ∀ {binds : List (Str × Value)} {m : Str → Option Value}, (binds.map (·.1)).Nodup → (x, v) ∈ binds → bindL kindOf binds m x = some v
  | (n, u) :: r, m, hn, h => by
    replace hn := List.nodup_cons.mp hn
    obtain ⟨h1, h2⟩ := hn
    replace h := List.mem_cons.mp h
    rcases h with e | h
    · cases e
      rw [bindL, bindL_not h1]; simp [hk]
    · rw [bindL]; exact bindL_at hk h2 h
theorem bindC_at {x : Str} {v : Value} (hk : kindOf x = some .cell) : ∀ {binds : List (Str × Value)} {m : Str → Option Value}, (binds.map (·.1)).Nodup → (x, v) ∈ binds → bindC kindOf binds m x = some v
  | (n, u) :: r, m, hn, h => by
    replace hn := List.nodup_cons.mp hn
    obtain ⟨h1, h2⟩ := hn
    replace h := List.mem_cons.mp h
    rcases h with e | h
    · cases e
      rw [bindC, bindC_not h1]; simp [hk]
    · rw [bindC]; exact bindC_at hk h2 h
end

theorem zip_names : ∀ {ns : List Str} {vs : List Value}, ns.length = vs.length → (ns.zip vs).map (·.1) = ns
  | [], [], _ => rfl
  | a :: r, v :: vs, h => by simp [zip_names (ns := r) (vs := vs) (by simpa using h)]
  | [], _ :: _, h => by cases h
  | _ :: _, [], h => by cases h
theorem zip_get {ns : List Str} {vs : List Value} {i : Nat} {x : Str} {v : Value} (h1 : ns[i]? = some x) (h2 : vs[i]? = some v) : (x, v) ∈ ns.zip vs := by
  refine List.mem_of_getElem? (i := i) ?_
  rw [List.getElem?_zip_eq_some]
  exact ⟨h1, h2⟩

theorem paired_get {α β : Type} {R : α → β → Prop} {l : List α} {r : List β} (h : Paired R l r) : ∀ {i : Nat} {a : α}, l[i]? = some a → ∃ b, r[i]? = some b ∧ R a b := by
  induction h with
  | nil => intro i a h; simp at h
  | cons x _ ih =>
    intro i a h
    rcases i with _ | i
    ·
      simp at h; subst h; exact ⟨_, rfl, x⟩
    ·
      exact ih (i := i) (by simpa using h)

theorem rep_mores {prog : Program} {w : World} {h : Heap} {p : PV} {v : Value} {V : List Addr} : ∀ {W : List Addr}, (∀ a ∈ W, h.get? a = none) → Rep prog w V h p v → Rep prog w (W ++ V) h p v
  | [], _, x => x
  | a :: r, hf, x => rep_more (hf a List.mem_cons_self) (rep_mores (fun b hb => hf b (List.mem_cons_of_mem _ hb)) x)

theorem none_of_ge {h : Heap} {a : Addr} (x : h.objs.size ≤ a) : h.get? a = none := by
  cases e : h.get? a with
  | none => rfl
  | some o => exact absurd (Heap.lt_size e) (Nat.not_lt.mpr x)
theorem none_of_ext {h h' : Heap} (e : Ext h h') {a : Addr} (x : h'.get? a = none) : h.get? a = none := by
  cases q : h.get? a with
  | none => rfl
  | some o => rw [e _ _ q] at x; cases x

section
variable {prog : Program} {w : World} {hB : Heap} {K : Frag} {F : Fns} {G : Gls} {n fuel : Nat}

theorem start_sx {d : FD} {fd : FuncData} {a : Addr} {s s₁ : Shared} {V : List Addr} {args : List PV} {vs : List Value} (hc : fdChk0 K d fd = true) (hx : Ext hB s.heap) (hV : Live V s.heap) (hn : ∀ a ∈ V, hB.get? a = none)
    (hl : args.length = d.np) (hp : Paired (Rep prog w V s.heap) args vs)
    (x : InCallC s (callEnvC fd s.heap.objs.size a).locals (bindL (callEnvC fd s.heap.objs.size a).kindOf ((fd.params.args.map (·.arg)).zip vs) fun _ => none) (callEnvC fd s.heap.objs.size a).cells
        (bindC (callEnvC fd s.heap.objs.size a).kindOf ((fd.params.args.map (·.arg)).zip vs) fun _ => none) s₁) :
    Sx prog w hB fd.scope.names d.sl (args.map .val ++ List.replicate (d.sl.length - d.np) .un) V (s.heap.objs.size :: (callEnvC fd s.heap.objs.size a).cells.map (·.2)) (callEnvC fd s.heap.objs.size a) (fun _ => 0) s₁.heap ∧
      ∀ c ∈ s.heap.objs.size :: (callEnvC fd s.heap.objs.size a).cells.map (·.2), s.heap.get? c = none := by
  replace hc := f_ok hc
  obtain ⟨-, -, -, hkf, c6, c7, -, c9, hnp, c11, c12, c13, c14, c15, -, -, hle⟩ := hc
  have hlv : (fd.params.args.map (·.arg)).length = vs.length := by rw [List.length_map, hnp, ← hl]; exact paired_length hp
  generalize hps : fd.params.args.map (·.arg) = ps at *
  generalize he : callEnvC fd s.heap.objs.size a = env at *
  have e1 : env.scope = fd.scope := by rw [← he]; rfl
  have e2 : env.locals = s.heap.objs.size := by rw [← he]; rfl
  have e3 : env.globals = fd.globals := by rw [← he]; rfl
  have e4 : env.builtins = fd.builtins := by rw [← he]; rfl
  have e5 : env.cells = cellsFrom (s.heap.objs.size + 1) fd.scope.names [] := by rw [← he]; rfl
  have hfresh : ∀ c ∈ s.heap.objs.size :: env.cells.map (·.2), s.heap.get? c = none := fun c hc => by
    replace hc := List.mem_cons.mp hc
    rcases hc with rfl | hc
    · exact none_of_ge (Nat.le_refl _)
    · replace hc := List.mem_map.mp hc
      obtain ⟨⟨y, c'⟩, hm, rfl⟩ := hc
      have := x.above y c' hm
      rw [e2] at this
      exact none_of_ge (Nat.le_of_lt this)
  refine ⟨?_, hfresh⟩
  have cnd : (env.cells.map (·.1)).Nodup := by
    rw [e5, cellsFrom_names fd.scope.names _ 0 [] [] rfl]; exact strNd_of c14
  have keep := x.toInCall.keep
  have pnd : ((ps.zip vs).map (·.1)).Nodup := by rw [zip_names hlv]; exact strNd_of c11
  have cin : ∀ y c, env.cells.lookup y = some c → (y, c) ∈ env.cells := fun y c h => mem_of_lookup h
  refine { st := ⟨by rw [e1]; exact hkf, by rw [e3]; exact c6, by rw [e4]; exact c7, fun y k h => by unfold Env.kindOf; rw [e1]; exact h, fun y => noFree_of c13, fun y hy => ?_, fun y z c hy hz => ?_, fun y c hy => ?_, slNd_of (strNd_of c12)⟩,
           base := hx.trans keep, live := fun c hc => ?_, new := fun c hc => ?_, len := ?_, loc := ⟨by rw [e2]; exact List.mem_cons_self, _, x.toInCall.ns⟩, cell := fun y c hy => ⟨List.mem_cons_of_mem _ (List.mem_map_of_mem (f := Prod.snd) (cin y c hy)), _, x.cell y c hy⟩,
           val := ?_, own := ?_, oinj := ?_, osep := ?_ }
  · have := cellsFrom_has (x := y) fd.scope.names (s.heap.objs.size + 1) [] (.inr hy)
    rw [← e5, Option.isSome_iff_exists] at this
    exact this
  · exact name_of_addr x.apart (cin _ _ hy) (cin _ _ hz)
  · exact Nat.ne_of_gt (x.above y c (cin _ _ hy))
  · replace hc := List.mem_append.mp hc
    rcases hc with hc | hc
    · obtain ⟨o, ho⟩ := hV c hc; exact ⟨o, keep _ _ ho⟩
    · replace hc := List.mem_cons.mp hc
      rcases hc with rfl | hc
      · obtain ⟨o, _, _, ho, _⟩ := x.toInCall.ns
        rw [e2] at ho; exact ⟨o, ho⟩
      · replace hc := List.mem_map.mp hc
        obtain ⟨⟨y, c'⟩, hm, rfl⟩ := hc
        obtain ⟨o, ho, _⟩ := x.cell y c' (lookup_of_mem_nodup cnd hm)
        exact ⟨o, ho⟩
  · replace hc := List.mem_append.mp hc
    rcases hc with hc | hc
    · exact hn c hc
    · exact none_of_ext hx (hfresh c hc)
  · simp only [List.length_append, List.length_map, List.length_replicate, hl]; omega
  · intro i y p hi hv
    have hlt : i < args.length := by
      apply Classical.byContradiction
      intro hge
      rw [List.getElem?_append_right (by simpa using hge), List.getElem?_replicate] at hv
      split at hv <;> cases hv
    rw [List.getElem?_append_left (by simpa using hlt), List.getElem?_map] at hv
    replace hv := map_s hv
    obtain ⟨q, hq, hv⟩ := hv
    cases hv
    obtain ⟨v, hvv, hr⟩ := paired_get hp hq
    have hpi : ∃ z, ps[i]? = some z := ⟨ps[i]'(by rw [hlv, ← paired_length hp]; exact hlt), List.getElem?_eq_getElem _⟩
    obtain ⟨z, hz⟩ := hpi
    have := parsAre_of c9 i z hz
    rw [hi] at this; cases this
    have hk : kdL fd.scope.names y = true := List.all_eq_true.mp c15 y (List.mem_of_getElem? hz)
    refine ⟨v, ?_, ((rep_mores (W := s.heap.objs.size :: env.cells.map (·.2)) hfresh hr).ext keep).less fun c hc => ?_⟩
    · replace hk := or_t hk
      rcases hk with hk | hk
      · have k : env.kindOf y = some .local := by unfold Env.kindOf; rw [e1]; exact kdIs_eq hk
        exact .loc _ k x.toInCall.ns (bindL_at k pnd (zip_get hz hvv))
      · have k : env.kindOf y = some .cell := by unfold Env.kindOf; rw [e1]; exact kdIs_eq hk
        have := cellsFrom_has (x := y) fd.scope.names (s.heap.objs.size + 1) [] (.inr (kdIs_eq hk))
        rw [← e5, Option.isSome_iff_exists] at this
        obtain ⟨c, hc⟩ := this
        have hcell := x.cell y c hc
        rw [bindC_at k pnd (zip_get hz hvv)] at hcell
        exact .cell c (.inl k) hc hcell
    · replace hc := List.mem_append.mp hc
      rcases hc with hc | hc
      · exact List.mem_append_right _ hc
      · exact List.mem_append_left _ hc
  all_goals
    have noown : ∀ {i : Nat} {p : PV}, (args.map Slot.val ++ List.replicate (d.sl.length - d.np) Slot.un)[i]? ≠ some (.own p) := fun {i p} h => by
      have := List.mem_of_getElem? h
      rcases List.mem_append.mp this with h | h
      · obtain ⟨_, _, e⟩ := List.mem_map.mp h; cases e
      · have := List.eq_of_mem_replicate h; cases this
  · intro i y p hi hv; exact (noown hv).elim
  · intro i j p q hi; exact (noown hi).elim
  · intro i p hi; exact (noown hi).elim
end
end Mine

end
section
open PySem PySem.W PyProof.Rows PySem.Calls
open PySem.SeqAt PySem.SeqRoads2
set_option Elab.async false
set_option autoImplicit false
namespace Mine
section
variable {prog : Program} {w : World} {hB : Heap} {K : Frag} {F : Fns} {G : Gls} {n fuel : Nat}

noncomputable def OutQ (Q : Value → Shared → Prop) (fl : Flow) (s : Shared) : Prop := match fl with
  | .ret v => Q v s
  | .next => Q .none s
  | _ => False
/-- a function is entered -/
theorem enter0 (T : Sys prog w hB K F G n) {m : Nat} {d : FD} {fd : FuncData} {b : List Stmt} {f : Addr} {o : Obj} {args : List PV} {A : Around} {s : Shared} {vs given : List Value} {V : List Addr} {Q E : Value → Shared → Prop}
    (hc0 : fdChk0 K d fd = true) (hb : fd.body = .stmts b) (ho : K.lookup f = some o) (hd : o.data = .func fd) (hl : args.length = d.np) (hp : Paired (Rep prog w V s.heap) args vs)
    (R : Room (m + 1) A) (hx : Ext hB s.heap) (hV : Live V s.heap) (hn : ∀ a ∈ V, hB.get? a = none) (hbind : BindsTo s fd ⟨given, []⟩ ((fd.params.args.map (·.arg)).zip vs))
    (h : ∀ (env : Env) (s₁ : Shared) (W : List Addr) (E' : Value → Shared → Prop), Sx prog w hB fd.scope.names d.sl (args.map Slot.val ++ List.replicate (d.sl.length - d.np) Slot.un) V W env (fun _ => 0) s₁.heap → Keeps s s₁ → (∀ c ∈ W, s.heap.get? c = none) → Room m (A.deeper env) →
      wpAny (model prog w) (A.deeper env) (PySem.execs b env) (OutQ Q) E' s₁) :
    wpAny (model prog w) A (call (.ref f) given) Q E s := by
  have hc' := f_ok hc0
  obtain ⟨hclo, c3, c4, hkf, -, -, -, -, -, -, -, -, -, c15, c16, -, -⟩ := hc'
  have kin : K.In s.heap := fun a o e => hx _ _ (T.B.kin a o e)
  refine wpAny_call (codeAny_call_function (body := b) (Nat.lt_of_le_of_lt (Nat.le_add_right _ _) R.2.1) (kin f o ho) hd c3 c4 hb (codeRec_of kin c16) (hbind _ _ _ _ ?_))
  rw [hclo]
  refine wpAny_newFunctionEnv_cells hkf (fun x hm => ?_) fun env he s₁ x => ?_
  · have hmem : x.1 ∈ fd.params.args.map (·.arg) := (List.of_mem_zip (a := x.1) (b := x.2) hm).1
    rcases or_t (List.all_eq_true.mp c15 _ hmem) with hk | hk
    · exact .inl (kdIs_eq hk)
    · exact .inr ⟨kdIs_eq hk, cellsFrom_has _ _ _ (.inr (kdIs_eq hk))⟩
  · have he : env = callEnvC fd s.heap.objs.size f := he
    subst he
    have keep := x.toInCall.keep
    obtain ⟨X, hfresh⟩ := start_sx (d := d) hc0 hx hV hn hl hp x
    have R' : Room m (A.deeper (callEnvC fd s.heap.objs.size f)) := ⟨R.1, by have := R.2.1; show A.depth + 1 + m < _; omega, by have := R.2.2; show A.units + 3 + 8 * m + 8 < _; omega⟩
    have kp : Keeps s s₁ := by
      obtain ⟨h₁, t₁, rfl, _⟩ := x.done
      exact ⟨h₁, t₁, rfl, keep⟩
    refine ⟨(T.B.nolimit.keeps hx).keeps keep, codeAny_func (wpAny_mono (h _ s₁ _ _ X kp hfresh R') (fun fl s' q => ?_) fun _ _ e => e)⟩
    induction fl with
    | ret v => exact q
    | next => exact q
    | _ => exact q.elim
theorem fn_run (T : Sys prog w hB K F G n) {d : FD} {fd : FuncData} {b : List Stmt} {a : Addr} {o : Obj} {args : List PV} {r : PV} {A : Around} {s : Shared} {V : List Addr} {vs : List Value} {given : List Value}
    (hc : fdChk K d fd b = true) (hb : fd.body = .stmts b) (ho : K.lookup a = some o) (hd : o.data = .func fd) (hl : args.length = d.np) (hr : runFn F G fuel (d.sl.length - d.np) d.body args = some r) (hp : Paired (Rep prog w V s.heap) args vs)
    (R : Room (n + 1) A) (hx : Ext hB s.heap) (hV : Live V s.heap) (hn : ∀ a ∈ V, hB.get? a = none) (hbind : BindsTo s fd ⟨given, []⟩ ((fd.params.args.map (·.arg)).zip vs)) :
    Mine.Gives (model prog w) A (call (.ref a) given) s (fun h x => Rep prog w V h r x) := by
  intro E
  replace hc := and_t hc
  obtain ⟨c0, hc0⟩ := hc
  replace hr := bind_s hr
  obtain ⟨⟨ρ', out⟩, hex, hr⟩ := hr
  refine enter0 T hc0 hb ho hd hl hp R hx hV hn hbind fun env s₁ W E' X kp hfresh R' => wpAny_mono (bk_ok T d.body _ _ _ _ _ _ _ _ _ _ _ _ _ c0 hex X R') (fun fl s' p => ?_) fun _ _ e => e
  obtain ⟨W', oa', g, f, X', hout⟩ := p
  have hk : Keeps s s' := by
    obtain ⟨h₁, t₁, rfl, e₁⟩ := kp
    obtain ⟨h₂, t₂, rfl, e₂⟩ := f
    exact ⟨h₂, t₂, rfl, fun c o e => e₂ c o (fun hm => by rw [hfresh c hm] at e; cases e) (e₁ c o e)⟩
  induction hout with
  | ret p v r =>
    cases hr
    exact ⟨hk, r⟩
  | next =>
    cases hr
    exact ⟨hk, rfl⟩
  | brk => exact ns hr
  | cont => exact ns hr
/-- a function without defaults is entered -/
theorem enter (T : Sys prog w hB K F G n) {m : Nat} {d : FD} {fd : FuncData} {b : List Stmt} {f : Addr} {o : Obj} {args : List PV} {A : Around} {s : Shared} {vs : List Value} {V : List Addr} {Q E : Value → Shared → Prop}
    (hc0 : fdChk0 K d fd = true) (hb : fd.body = .stmts b) (ho : K.lookup f = some o) (hd : o.data = .func fd) (hdf : d.dfl = []) (hl : args.length = d.np) (hp : Paired (Rep prog w V s.heap) args vs)
    (R : Room (m + 1) A) (hx : Ext hB s.heap) (hV : Live V s.heap) (hn : ∀ a ∈ V, hB.get? a = none)
    (h : ∀ (env : Env) (s₁ : Shared) (W : List Addr) (E' : Value → Shared → Prop), Sx prog w hB fd.scope.names d.sl (args.map Slot.val ++ List.replicate (d.sl.length - d.np) Slot.un) V W env (fun _ => 0) s₁.heap → Keeps s s₁ → (∀ c ∈ W, s.heap.get? c = none) → Room m (A.deeper env) →
      wpAny (model prog w) (A.deeper env) (PySem.execs b env) (OutQ Q) E' s₁) :
    wpAny (model prog w) A (call (.ref f) vs) Q E s := by
  have hc' := f_ok hc0
  obtain ⟨-, -, -, -, -, -, c8, -, c10, c11, -, -, -, -, -, c17, -⟩ := hc'
  have hlv : (fd.params.args.map (·.arg)).length = vs.length := by rw [List.length_map, c10, ← hl]; exact paired_length hp
  have hdef : fd.defaults = .none := by
    rw [hdf] at c17
    replace c17 := any1_e c17
    generalize fd.defaults = v at c17
    induction c17 with | mk _ _ => rfl
  exact enter0 T hc0 hb ho hd hl hp R hx hV hn (bind_full c8 rfl (strNd_of c11) hlv (by rw [hdef]; exact seqItems_none) rfl) h

theorem fnChk_of {d : FD} (h : fnChk K d = true) : GFn K d (fdChk K d) := fnAt_e h

theorem len_one {α : Type} {l : List α} (h : l.length = 1) : ∃ a, l = [a] := by
  rcases l with _ | ⟨a, r⟩
  ·
    cases h
  ·
    rcases r with _ | ⟨_, _⟩
    ·
      exact ⟨a, rfl⟩
    ·
      cases h
theorem len_two {α : Type} {l : List α} (h : l.length = 2) : ∃ a b, l = [a, b] := by
  rcases l with _ | ⟨a, r⟩
  ·
    cases h
  ·
    obtain ⟨b, rfl⟩ := len_one (Nat.succ.inj h)
    exact ⟨a, b, rfl⟩
theorem bind_two' {s : Shared} {fd : FuncData} {vs : List Value} {d : Value} (hp : plainPars fd.params = true) (hnd : (fd.params.args.map (·.arg)).Nodup) (h2 : (fd.params.args.map (·.arg)).length = 2) (hl : (fd.params.args.map (·.arg)).length = vs.length)
    (hd : ∀ (M : Model) (A : Around) (E : Value → Shared → Prop) (Q : Option (Array Value) → Shared → Prop), Q (some #[d]) s → wpAny M A (seqItems? fd.defaults) Q E s) : BindsTo s fd ⟨vs, []⟩ ((fd.params.args.map (·.arg)).zip vs) := by
  generalize hps : fd.params.args.map (·.arg) = ps at *
  obtain ⟨x, y, rfl⟩ := len_two h2
  obtain ⟨v, u, rfl⟩ := len_two hl.symm
  exact bind_two hp hps hnd hd
theorem bind_dfl' {s : Shared} {fd : FuncData} {v d : Value} (hp : plainPars fd.params = true) (hnd : (fd.params.args.map (·.arg)).Nodup) (h2 : (fd.params.args.map (·.arg)).length = 2)
    (hd : ∀ (M : Model) (A : Around) (E : Value → Shared → Prop) (Q : Option (Array Value) → Shared → Prop), Q (some #[d]) s → wpAny M A (seqItems? fd.defaults) Q E s) : BindsTo s fd ⟨[v], []⟩ ((fd.params.args.map (·.arg)).zip [v, d]) := by
  generalize hps : fd.params.args.map (·.arg) = ps at *
  obtain ⟨x, y, rfl⟩ := len_two h2
  exact bind_dfl hp hps hnd hd
inductive Dfl (fd : FuncData) (np : Nat) (s : Shared) : List Int → Prop
  | no (h : fd.defaults = .none) : Dfl fd np s []
  | one (k : Int) (t : Tok) (e : np = 2) (h : ∀ (M : Model) (A : Around) (E : Value → Shared → Prop) (Q : Option (Array Value) → Shared → Prop), Q (some #[.int k t]) s → wpAny M A (seqItems? fd.defaults) Q E s) : Dfl fd np s [k]
theorem hdfl {fd : FuncData} {np : Nat} {s : Shared} {dfl : List Int} (kin : K.In s.heap) (h : GDfl K np dfl fd.defaults) : Dfl fd np s dfl := by
  generalize e : fd.defaults = v at h
  induction h with
  | no => exact .no e
  | one k t a o n e2 h1 h2 => exact .one k t e2 fun M A E Q hq => by rw [e]; exact wpAny_seqItems (kin _ _ h1) h2 hq
theorem fn_ok (T : Sys prog w hB K F G n) {d : FD} {args : List PV} {r : PV} (hc : fnChk K d = true) (hr : d.run F G fuel args = some r) : FnOk prog w hB K (n + 1) d.id args r := by
  intro A s V vs a R hx hV hn ha hp
  replace hc := fnChk_of hc
  obtain ⟨a', o, fd, b, ha', ho, hd, hb, hc⟩ := hc
  rw [ha] at ha'; cases ha'
  have hf := f_ok (and_t hc).2
  obtain ⟨-, -, -, -, -, -, c8, -, hnp, c11, -, -, -, -, -, c17, -⟩ := hf
  have kin : K.In s.heap := fun a o e => hx _ _ (T.B.kin a o e)
  have hlen : (fd.params.args.map (·.arg)).length = d.np := by rw [List.length_map, hnp]
  have hnd := strNd_of c11
  -- the defaults
  have hdf := hdfl kin (dflChk_inv c17)
  clear c17
  unfold FD.run at hr
  generalize hdd : d.dfl = dfl at hr hdf
  split at hr
  · rename_i hl
    have hlv : (fd.params.args.map (·.arg)).length = vs.length := by rw [hlen, ← hl]; exact paired_length hp
    refine fn_run T hc hb ho hd hl hr hp R hx hV hn ?_
    induction hdf with
    | no h0 => exact bind_full c8 rfl hnd hlv (by rw [h0]; exact seqItems_none) rfl
    | one k t h2 h3 => exact bind_two' c8 hnd (hlen.trans h2) hlv h3
  · split at hr
    · rename_i hl
      obtain ⟨h1, h2, h3⟩ := hl
      induction hdf with
      | no h0 => exact nomatch h3
      | one k t _ hs =>
        have hlv := paired_length hp
        rw [h1] at hlv
        obtain ⟨v, rfl⟩ := len_one hlv.symm
        exact fn_run (vs := [v, .int k t]) T hc hb ho hd (by rw [List.length_append, h1, h2]; rfl) hr (paired_snoc hp rfl) R hx hV hn (bind_dfl' c8 hnd (hlen.trans h2) hs)
    · exact ns hr

noncomputable def Fn (tbl : List FD) (sp : Fns) (G : Gls) (fuel : Nat) : Nat → Fns
  | 0 => fun _ _ => none
  | n + 1 => fun f args => match tbl.find? (fun d => Nat.beq d.id f) with
    | some d => d.run (Fn tbl sp G fuel n) G fuel args
    | none => sp f args

theorem Room.less {A : Around} (R : Room (n + 1) A) : Room n A := ⟨R.1, by have := R.2.1; omega, by have := R.2.2; omega⟩

theorem fns_ok {tbl : List FD} {sp : Fns} (B : Base hB K) (bi : BisOk K) (gl : GlsOk prog w hB K G) (ht : tbl.all (fnChk K) = true)
    (hs : ∀ n f args r, sp f args = some r → (∃ a o fd, nsIn K mainGlobals (fnm f) = some (some (.ref a)) ∧ K.lookup a = some o ∧ o.data = .func fd) ∧ FnOk prog w hB K (n + 1) f args r) :
    ∀ n, FnsOk prog w hB K n (Fn tbl sp G fuel n)
  | 0 => fun f args r h => by cases h
  | n + 1 => fun f args r h => by
    have T : Sys prog w hB K (Fn tbl sp G fuel n) G n := ⟨B, bi, fns_ok B bi gl ht hs n, gl⟩
    unfold Fn at h
    split at h
    · rename_i d hf
      have hm := List.mem_of_find?_eq_some hf
      have hid := List.find?_some hf
      have hid : d.id = f := Nat.eq_of_beq_eq_true hid
      have hc := List.all_eq_true.mp ht d hm
      subst hid
      obtain ⟨a, o, fd, b, h1, h2, h3, _⟩ := fnChk_of hc
      exact ⟨⟨a, o, fd, h1, h2, h3⟩, fn_ok T hc h⟩
    · exact hs n f args r h

end
end Mine

end
section
open PySem PySem.W PyProof.Rows PySem.Calls
set_option Elab.async false
set_option autoImplicit false
namespace Mine
/-- needs_word -/
noncomputable def b_needs_word : Ss := (.cons (.iff (.notE (.cmp2 .le .le (.k (.int 32)) (.bi .ord (.cons (.idx (.var 0) (.var 1)) .nil)) (.k (.int 126)))) (.cons (.ret (.k (.bool true))) .nil) .nil) (.cons (.iff (.cmp .eq (.idx (.var 0) (.var 1)) (.k (.str [32]))) (.cons (.ret (.orE (.cons (.cmp .eq (.var 1) (.k (.int 0))) (.cons (.cmp .eq (.var 1) (.bin .sub (.bi .len (.cons (.var 0) .nil)) (.k (.int 1)))) .nil)))) .nil) .nil) (.cons (.ret (.orE (.cons (.cmp .eq (.sl2 (.var 0) (.var 1) (.bin .add (.var 1) (.k (.int 2)))) (.k (.str [61, 63]))) (.cons (.cmp .eq (.sl2 (.var 0) (.bi .max (.cons (.bin .sub (.var 1) (.k (.int 1))) (.cons (.k (.int 0)) .nil))) (.bin .add (.var 1) (.k (.int 1)))) (.k (.str [61, 63]))) .nil)))) .nil)))
noncomputable def d_needs_word : FD := { id := 0, np := 2, dfl := [], sl := [some (Str.ofString "text"), some (Str.ofString "at")], body := b_needs_word }
noncomputable def e0_encoded_span : E := (.var 4)
noncomputable def q0_encoded_span : Es := (.cons (.call 0 (.cons (.var 0) (.cons (.var 4) .nil))) .nil)
noncomputable def c0_encoded_span : E := (.comp 4 e0_encoded_span (.bi .range (.cons (.bi .len (.cons (.var 0) .nil)) .nil)) q0_encoded_span)
noncomputable def t0_encoded_span : E := (.andE (.cons (.cmp .gt (.var 2) (.k (.int 0))) (.cons (.cmp .ne (.idx (.var 0) (.bin .sub (.var 2) (.k (.int 1)))) (.k (.str [32]))) .nil)))
noncomputable def l0_encoded_span : Ss := (.cons (.assign 2 (.bin .sub (.var 2) (.k (.int 1)))) .nil)
noncomputable def t1_encoded_span : E := (.andE (.cons (.cmp .lt (.var 3) (.bi .len (.cons (.var 0) .nil))) (.cons (.cmp .ne (.idx (.var 0) (.var 3)) (.k (.str [32]))) .nil)))
noncomputable def l1_encoded_span : Ss := (.cons (.assign 3 (.bin .add (.var 3) (.k (.int 1)))) .nil)
/-- encoded_span -/
noncomputable def b_encoded_span : Ss := (.cons (.assign 1 c0_encoded_span) (.cons (.iff (.cmp .eq (.var 1) (.lst .nil)) (.cons (.ret (.tup (.cons (.k (.int 0)) (.cons (.k (.int 0)) .nil)))) .nil) .nil) (.cons (.assign 2 (.idx (.var 1) (.k (.int 0)))) (.cons (.assign 3 (.bin .add (.idx (.var 1) (.neg (.k (.int 1)))) (.k (.int 1)))) (.cons (.whil t0_encoded_span l0_encoded_span) (.cons (.whil t1_encoded_span l1_encoded_span) (.cons (.ret (.tup (.cons (.var 2) (.cons (.var 3) .nil)))) .nil)))))))
noncomputable def d_encoded_span : FD := { id := 1, np := 1, dfl := [], sl := [some (Str.ofString "text"), some (Str.ofString "needy"), some (Str.ofString "begin"), some (Str.ofString "end"), none], body := b_encoded_span }
noncomputable def e0_utf8_length : E := (.var 1)
noncomputable def q0_utf8_length : Es := (.cons (.cmp .gt (.var 0) (.var 1)) .nil)
noncomputable def c0_utf8_length : E := (.comp 1 e0_utf8_length (.tup (.cons (.k (.int 127)) (.cons (.k (.int 2047)) (.cons (.k (.int 65535)) .nil)))) q0_utf8_length)
/-- utf8_length -/
noncomputable def b_utf8_length : Ss := (.cons (.iff (.orE (.cons (.cmp2 .le .le (.k (.int 55296)) (.var 0) (.k (.int 57343))) (.cons (.notE (.cmp2 .le .le (.k (.int 0)) (.var 0) (.k (.int 1114111)))) .nil))) (.cons (.ret (.k (.int 0))) .nil) .nil) (.cons (.ret (.bin .add (.k (.int 1)) (.bi .len (.cons c0_utf8_length .nil)))) .nil))
noncomputable def d_utf8_length : FD := { id := 2, np := 1, dfl := [], sl := [some (Str.ofString "code"), none], body := b_utf8_length }
noncomputable def l0_utf8_octets : Ss := (.cons (.insert0 2 (.bin .add (.k (.int 128)) (.bin .mod (.var 3) (.k (.int 64))))) (.cons (.assign 3 (.bin .fdiv (.var 3) (.k (.int 64)))) .nil))
/-- utf8_octets -/
noncomputable def b_utf8_octets : Ss := (.cons (.assign 1 (.call 2 (.cons (.var 0) .nil))) (.cons (.iff (.cmp .lt (.var 1) (.k (.int 2))) (.cons (.ret (.bin .mul (.lst (.cons (.var 0) .nil)) (.var 1))) .nil) .nil) (.cons (.new 2 .nil) (.cons (.assign 3 (.var 0)) (.cons (.for_ 4 (.bi .range (.cons (.bin .sub (.var 1) (.k (.int 1))) .nil)) l0_utf8_octets) (.cons (.ret (.bin .add (.lst (.cons (.bin .add (.bin .sub (.k (.int 256)) (.bin .shr (.k (.int 256)) (.var 1))) (.var 3)) .nil)) (.var 2))) .nil))))))
noncomputable def d_utf8_octets : FD := { id := 3, np := 1, dfl := [], sl := [some (Str.ofString "code"), some (Str.ofString "length"), some (Str.ofString "found"), some (Str.ofString "left"), some (Str.ofString "place")], body := b_utf8_octets }
/-- need_charset -/
noncomputable def b_need_charset : Ss := (.cons (.iff (.cmp .notin (.var 0) (.glob 6)) (.cons .raise .nil) .nil) .nil)
noncomputable def d_need_charset : FD := { id := 4, np := 1, dfl := [], sl := [some (Str.ofString "charset")], body := b_need_charset }
/-- has_sign -/
noncomputable def b_has_sign : Ss := (.cons (.iff (.cmp .eq (.var 0) (.glob 5)) (.cons (.ret (.cmp .gt (.call 2 (.cons (.var 1) .nil)) (.k (.int 0)))) .nil) .nil) (.cons (.ret (.cmp .lt (.var 1) (.ite (.cmp .eq (.var 0) (.glob 3)) (.k (.int 128)) (.k (.int 256))))) .nil))
noncomputable def d_has_sign : FD := { id := 5, np := 2, dfl := [], sl := [some (Str.ofString "charset"), some (Str.ofString "code")], body := b_has_sign }
noncomputable def l0_octets_in : Ss := (.cons (.assign 4 (.bi .ord (.cons (.idx (.var 1) (.var 3)) .nil))) (.cons (.iff (.notE (.call 5 (.cons (.var 0) (.cons (.var 4) .nil)))) (.cons .raise .nil) .nil) (.cons (.iff (.cmp .eq (.var 0) (.glob 5)) (.cons (.extend 2 (.call 3 (.cons (.var 4) .nil))) .nil) (.cons (.append 2 (.var 4)) .nil)) .nil)))
/-- octets_in -/
noncomputable def b_octets_in : Ss := (.cons (.drop (.call 4 (.cons (.var 0) .nil))) (.cons (.new 2 .nil) (.cons (.for_ 3 (.bi .range (.cons (.bi .len (.cons (.var 1) .nil)) .nil)) l0_octets_in) (.cons (.ret (.bi .bytes (.cons (.var 2) .nil))) .nil))))
noncomputable def d_octets_in : FD := { id := 6, np := 2, dfl := [], sl := [some (Str.ofString "charset"), some (Str.ofString "text"), some (Str.ofString "row"), some (Str.ofString "at"), some (Str.ofString "code")], body := b_octets_in }
noncomputable def e0_best_charset : E := (.var 2)
noncomputable def q0_best_charset : Es := (.cons (.notE (.call 5 (.cons (.var 1) (.cons (.bi .ord (.cons (.var 2) .nil)) .nil)))) .nil)
noncomputable def c0_best_charset : E := (.comp 2 e0_best_charset (.var 0) q0_best_charset)
noncomputable def l0_best_charset : Ss := (.cons (.iff (.cmp .eq c0_best_charset (.lst .nil)) (.cons (.ret (.var 1)) .nil) .nil) .nil)
/-- best_charset -/
noncomputable def b_best_charset : Ss := (.cons (.for_ 1 (.glob 6) l0_best_charset) (.cons (.ret (.k (.str []))) .nil))
noncomputable def d_best_charset : FD := { id := 7, np := 1, dfl := [], sl := [some (Str.ofString "text"), some (Str.ofString "charset"), none], body := b_best_charset }
/-- quoted_code -/
noncomputable def b_quoted_code : Ss := (.cons (.ret (.bi .bytes (.cons (.lst (.cons (.glob 8) (.cons (.idx (.glob 11) (.bin .fdiv (.var 0) (.k (.int 16)))) (.cons (.idx (.glob 11) (.bin .mod (.var 0) (.k (.int 16)))) .nil)))) .nil))) .nil)
noncomputable def d_quoted_code : FD := { id := 8, np := 1, dfl := [], sl := [some (Str.ofString "code")], body := b_quoted_code }
noncomputable def l0_word_q_encoded : Ss := (.cons (.iff (.cmp .eq (.var 2) (.glob 9)) (.cons (.append 1 (.bi .bytes (.cons (.lst (.cons (.glob 10) .nil)) .nil))) .nil) (.cons (.iff (.cmp .isin (.var 2) (.glob 12)) (.cons (.append 1 (.bi .bytes (.cons (.lst (.cons (.var 2) .nil)) .nil))) .nil) (.cons (.append 1 (.call 8 (.cons (.var 2) .nil))) .nil)) .nil)) .nil)
/-- word_q_encoded -/
noncomputable def b_word_q_encoded : Ss := (.cons (.new 1 .nil) (.cons (.for_ 2 (.var 0) l0_word_q_encoded) (.cons (.ret (.meth .join (.k (.bytes [])) (.cons (.var 1) .nil))) .nil)))
noncomputable def d_word_q_encoded : FD := { id := 9, np := 1, dfl := [], sl := [some (Str.ofString "octets"), some (Str.ofString "parts"), some (Str.ofString "code")], body := b_word_q_encoded }
noncomputable def l0_group_codes : Ss := (.cons (.assign 2 (.bin .add (.bin .mul (.k (.int 256)) (.var 2)) (.var 3))) .nil)
noncomputable def e0_group_codes : E := (.idx (.var 1) (.bin .band (.bin .shr (.var 2) (.bin .mul (.k (.int 6)) (.var 5))) (.k (.int 63))))
noncomputable def c0_group_codes : E := (.comp 5 e0_group_codes (.bi .range (.cons (.bin .sub (.var 4) (.k (.int 1))) (.cons (.neg (.k (.int 1))) (.cons (.neg (.k (.int 1))) .nil)))) .nil)
/-- group_codes -/
noncomputable def b_group_codes : Ss := (.cons (.assign 2 (.k (.int 0))) (.cons (.for_ 3 (.var 0) l0_group_codes) (.cons (.assign 4 (.bin .add (.bi .len (.cons (.var 0) .nil)) (.k (.int 1)))) (.cons (.assign 2 (.bin .shl (.var 2) (.bin .sub (.bin .mul (.k (.int 6)) (.var 4)) (.bin .mul (.k (.int 8)) (.bi .len (.cons (.var 0) .nil)))))) (.cons (.ret c0_group_codes) .nil)))))
noncomputable def d_group_codes : FD := { id := 10, np := 2, dfl := [], sl := [some (Str.ofString "octets"), some (Str.ofString "alphabet"), some (Str.ofString "total"), some (Str.ofString "code"), some (Str.ofString "count"), none], body := b_group_codes }
noncomputable def l0_part_encoded : Ss := (.cons (.extend 2 (.call 10 (.cons (.sl2 (.var 0) (.var 3) (.bin .add (.var 3) (.k (.int 3)))) (.cons (.var 1) .nil)))) .nil)
/-- part_encoded -/
noncomputable def b_part_encoded : Ss := (.cons (.new 2 .nil) (.cons (.for_ 3 (.bi .range (.cons (.k (.int 0)) (.cons (.bi .len (.cons (.var 0) .nil)) (.cons (.k (.int 3)) .nil)))) l0_part_encoded) (.cons (.ret (.bi .bytes (.cons (.var 2) .nil))) .nil)))
noncomputable def d_part_encoded : FD := { id := 11, np := 2, dfl := [], sl := [some (Str.ofString "octets"), some (Str.ofString "alphabet"), some (Str.ofString "codes"), some (Str.ofString "begin")], body := b_part_encoded }
/-- one_line -/
noncomputable def b_one_line : Ss := (.cons (.ret (.bin .add (.call 11 (.cons (.var 0) (.cons (.glob 0) .nil))) (.bi .bytes (.cons (.bin .mul (.lst (.cons (.glob 1) .nil)) (.bin .mod (.neg (.bi .len (.cons (.var 0) .nil))) (.k (.int 3)))) .nil)))) .nil)
noncomputable def d_one_line : FD := { id := 12, np := 1, dfl := [], sl := [some (Str.ofString "octets")], body := b_one_line }
noncomputable def e0_in_lines : E := (.sl2 (.var 0) (.var 2) (.bin .add (.var 2) (.var 1)))
noncomputable def c0_in_lines : E := (.comp 2 e0_in_lines (.bi .range (.cons (.k (.int 0)) (.cons (.bi .len (.cons (.var 0) .nil)) (.cons (.var 1) .nil)))) .nil)
/-- in_lines -/
noncomputable def b_in_lines : Ss := (.cons (.iff (.cmp .lt (.var 1) (.k (.int 1))) (.cons (.ret (.var 0)) .nil) .nil) (.cons (.ret (.meth .join (.glob 2) (.cons c0_in_lines .nil))) .nil))
noncomputable def d_in_lines : FD := { id := 13, np := 2, dfl := [], sl := [some (Str.ofString "line"), some (Str.ofString "width"), none], body := b_in_lines }
/-- encoded -/
noncomputable def b_encoded : Ss := (.cons (.ret (.call 13 (.cons (.call 12 (.cons (.var 0) .nil)) (.cons (.var 1) .nil)))) .nil)
noncomputable def d_encoded : FD := { id := 14, np := 2, dfl := [76], sl := [some (Str.ofString "octets"), some (Str.ofString "width")], body := b_encoded }
/-- payload -/
noncomputable def b_payload : Ss := (.cons (.ret (.ite (.cmp .eq (.var 1) (.k (.str [81]))) (.call 9 (.cons (.var 0) .nil)) (.call 14 (.cons (.var 0) (.cons (.k (.int 0)) .nil))))) .nil)
noncomputable def d_payload : FD := { id := 15, np := 2, dfl := [], sl := [some (Str.ofString "octets"), some (Str.ofString "way")], body := b_payload }
noncomputable def e0_framed_word : E := (.bi .ord (.cons (.var 3) .nil))
noncomputable def c0_framed_word : E := (.comp 3 e0_framed_word (.bin .add (.bin .add (.var 0) (.k (.str [63]))) (.var 1)) .nil)
/-- framed_word -/
noncomputable def b_framed_word : Ss := (.cons (.ret (.bin .add (.bin .add (.bin .add (.bin .add (.k (.bytes [61, 63])) (.bi .bytes (.cons c0_framed_word .nil))) (.k (.bytes [63]))) (.var 2)) (.k (.bytes [63, 61])))) .nil)
noncomputable def d_framed_word : FD := { id := 16, np := 3, dfl := [], sl := [some (Str.ofString "charset"), some (Str.ofString "way"), some (Str.ofString "octets"), none], body := b_framed_word }
/-- encoded_word -/
noncomputable def b_encoded_word : Ss := (.cons (.iff (.cmp .notin (.var 2) (.glob 17)) (.cons .raise .nil) .nil) (.cons (.assign 3 (.call 16 (.cons (.var 1) (.cons (.var 2) (.cons (.call 15 (.cons (.call 6 (.cons (.var 1) (.cons (.var 0) .nil))) (.cons (.var 2) .nil))) .nil))))) (.cons (.iff (.cmp .gt (.bi .len (.cons (.var 3) .nil)) (.glob 13)) (.cons .raise .nil) .nil) (.cons (.ret (.var 3)) .nil))))
noncomputable def d_encoded_word : FD := { id := 17, np := 3, dfl := [], sl := [some (Str.ofString "text"), some (Str.ofString "charset"), some (Str.ofString "way"), some (Str.ofString "found")], body := b_encoded_word }
noncomputable def e0_sign_sizes : E := (.call 6 (.cons (.var 1) (.cons (.var 4) .nil)))
noncomputable def c0_sign_sizes : E := (.comp 4 e0_sign_sizes (.var 0) .nil)
noncomputable def e1_sign_sizes : E := (.ite (.cmp .eq (.var 2) (.k (.str [81]))) (.bi .len (.cons (.call 9 (.cons (.var 5) .nil)) .nil)) (.bi .len (.cons (.var 5) .nil)))
noncomputable def c1_sign_sizes : E := (.comp 5 e1_sign_sizes (.var 3) .nil)
/-- sign_sizes -/
noncomputable def b_sign_sizes : Ss := (.cons (.assign 3 c0_sign_sizes) (.cons (.ret c1_sign_sizes) .nil))
noncomputable def d_sign_sizes : FD := { id := 18, np := 3, dfl := [], sl := [some (Str.ofString "text"), some (Str.ofString "charset"), some (Str.ofString "way"), some (Str.ofString "rows"), none, none], body := b_sign_sizes }
noncomputable def l0_chunk_ends : Ss := (.cons (.iff (.cmp .gt (.idx (.var 0) (.var 4)) (.var 1)) (.cons .raise .nil) .nil) (.cons (.iff (.cmp .gt (.bin .add (.var 3) (.idx (.var 0) (.var 4))) (.var 1)) (.cons (.append 2 (.var 4)) (.cons (.assign 3 (.k (.int 0))) .nil)) .nil) (.cons (.assign 3 (.bin .add (.var 3) (.idx (.var 0) (.var 4)))) .nil)))
/-- chunk_ends -/
noncomputable def b_chunk_ends : Ss := (.cons (.new 2 .nil) (.cons (.assign 3 (.k (.int 0))) (.cons (.for_ 4 (.bi .range (.cons (.bi .len (.cons (.var 0) .nil)) .nil)) l0_chunk_ends) (.cons (.ret (.bin .add (.var 2) (.lst (.cons (.bi .len (.cons (.var 0) .nil)) .nil)))) .nil))))
noncomputable def d_chunk_ends : FD := { id := 19, np := 2, dfl := [], sl := [some (Str.ofString "sizes"), some (Str.ofString "room"), some (Str.ofString "ends"), some (Str.ofString "used"), some (Str.ofString "at")], body := b_chunk_ends }
noncomputable def l0_words_of : Ss := (.cons (.append 5 (.call 17 (.cons (.sl2 (.var 0) (.var 6) (.var 7)) (.cons (.var 1) (.cons (.var 2) .nil))))) (.cons (.assign 6 (.var 7)) .nil))
/-- words_of -/
noncomputable def b_words_of : Ss := (.cons (.assign 4 (.bin .sub (.var 3) (.bi .len (.cons (.call 16 (.cons (.var 1) (.cons (.var 2) (.cons (.k (.bytes [])) .nil)))) .nil)))) (.cons (.iff (.cmp .eq (.var 2) (.k (.str [66]))) (.cons (.assign 4 (.bin .mul (.bin .fdiv (.var 4) (.k (.int 4))) (.k (.int 3)))) .nil) .nil) (.cons (.new 5 .nil) (.cons (.assign 6 (.k (.int 0))) (.cons (.for_ 7 (.call 19 (.cons (.call 18 (.cons (.var 0) (.cons (.var 1) (.cons (.var 2) .nil)))) (.cons (.var 4) .nil))) l0_words_of) (.cons (.ret (.meth .join (.k (.bytes [32])) (.cons (.var 5) .nil))) .nil))))))
noncomputable def d_words_of : FD := { id := 20, np := 4, dfl := [], sl := [some (Str.ofString "text"), some (Str.ofString "charset"), some (Str.ofString "way"), some (Str.ofString "width"), some (Str.ofString "room"), some (Str.ofString "found"), some (Str.ofString "begin"), some (Str.ofString "end")], body := b_words_of }
noncomputable def l0_shorter_words : Ss := (.cons (.try_ (.cons (.append 3 (.call 20 (.cons (.var 0) (.cons (.var 1) (.cons (.var 4) (.cons (.bi .min (.cons (.var 2) (.cons (.glob 13) .nil))) .nil)))))) .nil)) .nil)
/-- shorter_words -/
noncomputable def b_shorter_words : Ss := (.cons (.new 3 .nil) (.cons (.for_ 4 (.glob 17) l0_shorter_words) (.cons (.iff (.cmp .eq (.var 3) (.lst .nil)) (.cons .raise .nil) .nil) (.cons (.ret (.ite (.andE (.cons (.cmp .gt (.bi .len (.cons (.var 3) .nil)) (.k (.int 1))) (.cons (.cmp .lt (.bi .len (.cons (.idx (.var 3) (.k (.int 1))) .nil)) (.bi .len (.cons (.idx (.var 3) (.k (.int 0))) .nil))) .nil))) (.idx (.var 3) (.k (.int 1))) (.idx (.var 3) (.k (.int 0))))) .nil))))
noncomputable def d_shorter_words : FD := { id := 21, np := 3, dfl := [], sl := [some (Str.ofString "text"), some (Str.ofString "charset"), some (Str.ofString "width"), some (Str.ofString "found"), some (Str.ofString "way")], body := b_shorter_words }
/-- encoded_words -/
noncomputable def b_encoded_words : Ss := (.cons (.unpack [2, 3] (.call 1 (.cons (.var 0) .nil))) (.cons (.iff (.cmp .eq (.var 3) (.k (.int 0))) (.cons (.ret (.call 6 (.cons (.glob 3) (.cons (.var 0) .nil)))) .nil) .nil) (.cons (.assign 4 (.call 7 (.cons (.sl2 (.var 0) (.var 2) (.var 3)) .nil))) (.cons (.iff (.cmp .eq (.var 4) (.k (.str []))) (.cons .raise .nil) .nil) (.cons (.ret (.bin .add (.bin .add (.call 6 (.cons (.glob 3) (.cons (.sl0 (.var 0) (.var 2)) .nil))) (.call 21 (.cons (.sl2 (.var 0) (.var 2) (.var 3)) (.cons (.var 4) (.cons (.var 1) .nil))))) (.call 6 (.cons (.glob 3) (.cons (.sl1 (.var 0) (.var 3)) .nil))))) .nil)))))
noncomputable def d_encoded_words : FD := { id := 22, np := 2, dfl := [75], sl := [some (Str.ofString "text"), some (Str.ofString "width"), some (Str.ofString "begin"), some (Str.ofString "end"), some (Str.ofString "charset")], body := b_encoded_words }
/-- lower_code -/
noncomputable def b_lower_code : Ss := (.cons (.ret (.ite (.cmp2 .le .le (.k (.int 65)) (.var 0) (.k (.int 90))) (.bin .add (.var 0) (.k (.int 32))) (.var 0))) .nil)
noncomputable def d_lower_code : FD := { id := 23, np := 1, dfl := [], sl := [some (Str.ofString "code")], body := b_lower_code }
noncomputable def e0_lower_text : E := (.bi .chr (.cons (.call 23 (.cons (.bi .ord (.cons (.var 1) .nil)) .nil)) .nil))
noncomputable def c0_lower_text : E := (.comp 1 e0_lower_text (.var 0) .nil)
/-- lower_text -/
noncomputable def b_lower_text : Ss := (.cons (.ret (.meth .join (.k (.str [])) (.cons c0_lower_text .nil))) .nil)
noncomputable def d_lower_text : FD := { id := 24, np := 1, dfl := [], sl := [some (Str.ofString "text"), none], body := b_lower_text }
noncomputable def l0_charset_names : Ss := (.cons (.setd 0 (.var 1) (.glob 3)) .nil)
noncomputable def l1_charset_names : Ss := (.cons (.setd 0 (.var 1) (.glob 4)) .nil)
noncomputable def l2_charset_names : Ss := (.cons (.setd 0 (.var 1) (.glob 5)) .nil)
/-- charset_names -/
noncomputable def b_charset_names : Ss := (.cons (.newD 0) (.cons (.for_ 1 (.tup (.cons (.k (.str [117, 115, 45, 97, 115, 99, 105, 105])) (.cons (.k (.str [97, 115, 99, 105, 105])) (.cons (.k (.str [97, 110, 115, 105, 95, 120, 51, 46, 52, 45, 49, 57, 54, 56])) (.cons (.k (.str [105, 115, 111, 95, 54, 52, 54, 46, 105, 114, 118, 58, 49, 57, 57, 49])) (.cons (.k (.str [105, 115, 111, 45, 105, 114, 45, 54])) (.cons (.k (.str [105, 115, 111, 54, 52, 54, 45, 117, 115])) (.cons (.k (.str [117, 115])) (.cons (.k (.str [99, 112, 51, 54, 55])) (.cons (.k (.str [105, 98, 109, 51, 54, 55])) .nil)))))))))) l0_charset_names) (.cons (.for_ 1 (.tup (.cons (.k (.str [105, 115, 111, 45, 56, 56, 53, 57, 45, 49])) (.cons (.k (.str [105, 115, 111, 95, 56, 56, 53, 57, 45, 49])) (.cons (.k (.str [105, 115, 111, 95, 56, 56, 53, 57, 45, 49, 58, 49, 57, 56, 55])) (.cons (.k (.str [105, 115, 111, 45, 105, 114, 45, 49, 48, 48])) (.cons (.k (.str [108, 97, 116, 105, 110, 49])) (.cons (.k (.str [108, 49])) (.cons (.k (.str [99, 112, 56, 49, 57])) (.cons (.k (.str [105, 98, 109, 56, 49, 57])) .nil))))))))) l1_charset_names) (.cons (.for_ 1 (.tup (.cons (.k (.str [117, 116, 102, 45, 56])) (.cons (.k (.str [117, 116, 102, 56])) .nil))) l2_charset_names) (.cons (.ret (.var 0)) .nil)))))
noncomputable def d_charset_names : FD := { id := 25, np := 0, dfl := [], sl := [some (Str.ofString "found"), some (Str.ofString "alias")], body := b_charset_names }
/-- charset_name -/
noncomputable def b_charset_name : Ss := (.cons (.ret (.meth .get (.call 25 .nil) (.cons (.call 24 (.cons (.var 0) .nil)) (.cons (.k (.str [])) .nil)))) .nil)
noncomputable def d_charset_name : FD := { id := 26, np := 1, dfl := [], sl := [some (Str.ofString "text")], body := b_charset_name }
/-- hex_worth -/
noncomputable def b_hex_worth : Ss := (.cons (.iff (.cmp2 .le .le (.k (.int 48)) (.var 0) (.k (.int 57))) (.cons (.ret (.bin .sub (.var 0) (.k (.int 48)))) .nil) .nil) (.cons (.iff (.cmp2 .le .le (.k (.int 65)) (.var 0) (.k (.int 70))) (.cons (.ret (.bin .sub (.var 0) (.k (.int 55)))) .nil) .nil) (.cons (.iff (.cmp2 .le .le (.k (.int 97)) (.var 0) (.k (.int 102))) (.cons (.ret (.bin .sub (.var 0) (.k (.int 87)))) .nil) .nil) (.cons (.ret (.neg (.k (.int 1)))) .nil))))
noncomputable def d_hex_worth : FD := { id := 27, np := 1, dfl := [], sl := [some (Str.ofString "code")], body := b_hex_worth }
/-- quoted_at -/
noncomputable def b_quoted_at : Ss := (.cons (.iff (.cmp .ge (.bin .add (.var 1) (.k (.int 2))) (.bi .len (.cons (.var 0) .nil))) (.cons (.ret (.neg (.k (.int 1)))) .nil) .nil) (.cons (.assign 2 (.call 27 (.cons (.idx (.var 0) (.bin .add (.var 1) (.k (.int 1)))) .nil))) (.cons (.assign 3 (.call 27 (.cons (.idx (.var 0) (.bin .add (.var 1) (.k (.int 2)))) .nil))) (.cons (.ret (.ite (.andE (.cons (.cmp .ge (.var 2) (.k (.int 0))) (.cons (.cmp .ge (.var 3) (.k (.int 0))) .nil))) (.bin .add (.bin .mul (.k (.int 16)) (.var 2)) (.var 3)) (.neg (.k (.int 1))))) .nil))))
noncomputable def d_quoted_at : FD := { id := 28, np := 2, dfl := [], sl := [some (Str.ofString "data"), some (Str.ofString "at"), some (Str.ofString "high"), some (Str.ofString "low")], body := b_quoted_at }
noncomputable def t0_unquoted : E := (.cmp .lt (.var 2) (.bi .len (.cons (.var 0) .nil)))
noncomputable def l0_unquoted : Ss := (.cons (.assign 3 (.ite (.cmp .eq (.idx (.var 0) (.var 2)) (.glob 8)) (.call 28 (.cons (.var 0) (.cons (.var 2) .nil))) (.neg (.k (.int 1))))) (.cons (.iff (.cmp .ge (.var 3) (.k (.int 0))) (.cons (.append 1 (.var 3)) (.cons (.assign 2 (.bin .add (.var 2) (.k (.int 3)))) .nil)) (.cons (.append 1 (.idx (.var 0) (.var 2))) (.cons (.assign 2 (.bin .add (.var 2) (.k (.int 1)))) .nil))) .nil))
/-- unquoted -/
noncomputable def b_unquoted : Ss := (.cons (.new 1 .nil) (.cons (.assign 2 (.k (.int 0))) (.cons (.whil t0_unquoted l0_unquoted) (.cons (.ret (.bi .bytes (.cons (.var 1) .nil))) .nil))))
noncomputable def d_unquoted : FD := { id := 29, np := 1, dfl := [], sl := [some (Str.ofString "line"), some (Str.ofString "codes"), some (Str.ofString "at"), some (Str.ofString "code")], body := b_unquoted }
noncomputable def e0_word_q_decoded : E := (.ite (.cmp .eq (.var 1) (.glob 10)) (.glob 9) (.var 1))
noncomputable def c0_word_q_decoded : E := (.comp 1 e0_word_q_decoded (.var 0) .nil)
/-- word_q_decoded -/
noncomputable def b_word_q_decoded : Ss := (.cons (.ret (.call 29 (.cons (.bi .bytes (.cons c0_word_q_decoded .nil)) .nil))) .nil)
noncomputable def d_word_q_decoded : FD := { id := 30, np := 1, dfl := [], sl := [some (Str.ofString "octets"), none], body := b_word_q_decoded }
noncomputable def l0_group_octets : Ss := (.cons (.assign 1 (.bin .add (.bin .mul (.k (.int 64)) (.var 1)) (.var 2))) .nil)
noncomputable def e0_group_octets : E := (.bin .band (.bin .shr (.var 5) (.bin .mul (.k (.int 8)) (.var 6))) (.k (.int 255)))
noncomputable def c0_group_octets : E := (.comp 6 e0_group_octets (.bi .range (.cons (.bin .sub (.var 3) (.k (.int 1))) (.cons (.neg (.k (.int 1))) (.cons (.neg (.k (.int 1))) .nil)))) .nil)
/-- group_octets -/
noncomputable def b_group_octets : Ss := (.cons (.assign 1 (.k (.int 0))) (.cons (.for_ 2 (.var 0) l0_group_octets) (.cons (.assign 3 (.bin .sub (.bi .len (.cons (.var 0) .nil)) (.k (.int 1)))) (.cons (.assign 4 (.bin .sub (.bin .mul (.k (.int 6)) (.bi .len (.cons (.var 0) .nil))) (.bin .mul (.k (.int 8)) (.var 3)))) (.cons (.assign 5 (.bin .shr (.var 1) (.var 4))) (.cons (.ret (.tup (.cons (.bi .bytes (.cons c0_group_octets .nil)) (.cons (.bin .band (.var 1) (.bin .sub (.bin .shl (.k (.int 1)) (.var 4)) (.k (.int 1)))) .nil)))) .nil))))))
noncomputable def d_group_octets : FD := { id := 32, np := 1, dfl := [], sl := [some (Str.ofString "worth_row"), some (Str.ofString "total"), some (Str.ofString "number"), some (Str.ofString "count"), some (Str.ofString "spare"), some (Str.ofString "whole"), none], body := b_group_octets }
noncomputable def l0_decoded : Ss := (.cons (.iff (.cmp .eq (.var 3) (.glob 1)) (.cons .brk .nil) .nil) (.cons (.iff (.cmp .isin (.var 3) (.var 1)) (.cons (.append 2 (.idx (.var 1) (.var 3))) .nil) .nil) .nil))
noncomputable def l1_decoded : Ss := (.cons (.iff (.cmp .gt (.bin .sub (.bi .len (.cons (.var 2) .nil)) (.var 5)) (.k (.int 1))) (.cons (.append 4 (.idx (.call 32 (.cons (.sl2 (.var 2) (.var 5) (.bin .add (.var 5) (.k (.int 4)))) .nil)) (.k (.int 0)))) .nil) .nil) .nil)
/-- decoded -/
noncomputable def b_decoded : Ss := (.cons (.assign 1 (.call 31 (.cons (.glob 0) .nil))) (.cons (.new 2 .nil) (.cons (.for_ 3 (.var 0) l0_decoded) (.cons (.new 4 .nil) (.cons (.for_ 5 (.bi .range (.cons (.k (.int 0)) (.cons (.bi .len (.cons (.var 2) .nil)) (.cons (.k (.int 4)) .nil)))) l1_decoded) (.cons (.ret (.meth .join (.k (.bytes [])) (.cons (.var 4) .nil))) .nil))))))
noncomputable def d_decoded : FD := { id := 33, np := 1, dfl := [], sl := [some (Str.ofString "data"), some (Str.ofString "worths"), some (Str.ofString "worth_row"), some (Str.ofString "code"), some (Str.ofString "found"), some (Str.ofString "begin")], body := b_decoded }
/-- follower_span -/
noncomputable def b_follower_span : Ss := (.cons (.iff (.cmp2 .le .le (.k (.int 194)) (.var 0) (.k (.int 223))) (.cons (.ret (.tup (.cons (.k (.int 128)) (.cons (.k (.int 191)) (.cons (.k (.int 1)) .nil))))) .nil) .nil) (.cons (.iff (.cmp2 .le .le (.k (.int 224)) (.var 0) (.k (.int 239))) (.cons (.ret (.tup (.cons (.dget [(224, 160)] (.var 0) (.k (.int 128))) (.cons (.dget [(237, 159)] (.var 0) (.k (.int 191))) (.cons (.k (.int 2)) .nil))))) .nil) .nil) (.cons (.iff (.cmp2 .le .le (.k (.int 240)) (.var 0) (.k (.int 244))) (.cons (.ret (.tup (.cons (.dget [(240, 144)] (.var 0) (.k (.int 128))) (.cons (.dget [(244, 143)] (.var 0) (.k (.int 191))) (.cons (.k (.int 3)) .nil))))) .nil) .nil) (.cons (.ret (.tup (.cons (.k (.int 0)) (.cons (.k (.int 0)) (.cons (.k (.int 0)) .nil))))) .nil))))
noncomputable def d_follower_span : FD := { id := 34, np := 1, dfl := [], sl := [some (Str.ofString "lead")], body := b_follower_span }
noncomputable def l0_utf8_sign : Ss := (.cons (.iff (.orE (.cons (.cmp .ge (.bin .add (.var 1) (.var 7)) (.bi .len (.cons (.var 0) .nil))) (.cons (.notE (.cmp2 .le .le (.var 3) (.idx (.var 0) (.bin .add (.var 1) (.var 7))) (.var 4))) .nil))) (.cons (.ret (.tup (.cons (.neg (.k (.int 1))) (.cons (.var 7) .nil)))) .nil) .nil) (.cons (.assign 6 (.bin .add (.bin .mul (.var 6) (.k (.int 64))) (.bin .mod (.idx (.var 0) (.bin .add (.var 1) (.var 7))) (.k (.int 64))))) (.cons (.unpack [3, 4] (.tup (.cons (.k (.int 128)) (.cons (.k (.int 191)) .nil)))) .nil)))
/-- utf8_sign -/
noncomputable def b_utf8_sign : Ss := (.cons (.assign 2 (.idx (.var 0) (.var 1))) (.cons (.iff (.cmp .lt (.var 2) (.k (.int 128))) (.cons (.ret (.tup (.cons (.var 2) (.cons (.k (.int 1)) .nil)))) .nil) .nil) (.cons (.unpack [3, 4, 5] (.call 34 (.cons (.var 2) .nil))) (.cons (.iff (.cmp .eq (.var 5) (.k (.int 0))) (.cons (.ret (.tup (.cons (.neg (.k (.int 1))) (.cons (.k (.int 1)) .nil)))) .nil) .nil) (.cons (.assign 6 (.bin .mod (.var 2) (.bin .shr (.k (.int 64)) (.var 5)))) (.cons (.for_ 7 (.bi .range (.cons (.k (.int 1)) (.cons (.bin .add (.var 5) (.k (.int 1))) .nil))) l0_utf8_sign) (.cons (.ret (.tup (.cons (.var 6) (.cons (.bin .add (.var 5) (.k (.int 1))) .nil)))) .nil)))))))
noncomputable def d_utf8_sign : FD := { id := 35, np := 2, dfl := [], sl := [some (Str.ofString "octets"), some (Str.ofString "at"), some (Str.ofString "lead"), some (Str.ofString "least"), some (Str.ofString "most"), some (Str.ofString "count"), some (Str.ofString "code"), some (Str.ofString "place")], body := b_utf8_sign }
/-- sign_at -/
noncomputable def b_sign_at : Ss := (.cons (.iff (.cmp .eq (.var 0) (.glob 5)) (.cons (.ret (.call 35 (.cons (.var 1) (.cons (.var 2) .nil)))) .nil) .nil) (.cons (.iff (.andE (.cons (.cmp .eq (.var 0) (.glob 3)) (.cons (.cmp .gt (.idx (.var 1) (.var 2)) (.k (.int 127))) .nil))) (.cons (.ret (.tup (.cons (.neg (.k (.int 1))) (.cons (.k (.int 1)) .nil)))) .nil) .nil) (.cons (.ret (.tup (.cons (.idx (.var 1) (.var 2)) (.cons (.k (.int 1)) .nil)))) .nil)))
noncomputable def d_sign_at : FD := { id := 36, np := 3, dfl := [], sl := [some (Str.ofString "charset"), some (Str.ofString "octets"), some (Str.ofString "at")], body := b_sign_at }
noncomputable def t0_text_in : E := (.cmp .lt (.var 3) (.bi .len (.cons (.var 1) .nil)))
noncomputable def l0_text_in : Ss := (.cons (.unpack [4, 5] (.call 36 (.cons (.var 0) (.cons (.var 1) (.cons (.var 3) .nil))))) (.cons (.append 2 (.ite (.cmp .ge (.var 4) (.k (.int 0))) (.bi .chr (.cons (.var 4) .nil)) (.glob 7))) (.cons (.assign 3 (.bin .add (.var 3) (.var 5))) .nil)))
/-- text_in -/
noncomputable def b_text_in : Ss := (.cons (.drop (.call 4 (.cons (.var 0) .nil))) (.cons (.new 2 .nil) (.cons (.assign 3 (.k (.int 0))) (.cons (.whil t0_text_in l0_text_in) (.cons (.ret (.meth .join (.k (.str [])) (.cons (.var 2) .nil))) .nil)))))
noncomputable def d_text_in : FD := { id := 37, np := 2, dfl := [], sl := [some (Str.ofString "charset"), some (Str.ofString "octets"), some (Str.ofString "signs"), some (Str.ofString "at"), some (Str.ofString "code"), some (Str.ofString "length")], body := b_text_in }
noncomputable def t0_strict_text : E := (.cmp .lt (.var 3) (.bi .len (.cons (.var 1) .nil)))
noncomputable def l0_strict_text : Ss := (.cons (.unpack [4, 5] (.call 36 (.cons (.var 0) (.cons (.var 1) (.cons (.var 3) .nil))))) (.cons (.iff (.cmp .lt (.var 4) (.k (.int 0))) (.cons .raise .nil) .nil) (.cons (.append 2 (.bi .chr (.cons (.var 4) .nil))) (.cons (.assign 3 (.bin .add (.var 3) (.var 5))) .nil))))
/-- strict_text -/
noncomputable def b_strict_text : Ss := (.cons (.drop (.call 4 (.cons (.var 0) .nil))) (.cons (.new 2 .nil) (.cons (.assign 3 (.k (.int 0))) (.cons (.whil t0_strict_text l0_strict_text) (.cons (.ret (.meth .join (.k (.str [])) (.cons (.var 2) .nil))) .nil)))))
noncomputable def d_strict_text : FD := { id := 38, np := 2, dfl := [], sl := [some (Str.ofString "charset"), some (Str.ofString "octets"), some (Str.ofString "signs"), some (Str.ofString "at"), some (Str.ofString "code"), some (Str.ofString "length")], body := b_strict_text }
/-- guessed_text -/
noncomputable def b_guessed_text : Ss := (.cons (.try_ (.cons (.ret (.call 38 (.cons (.glob 5) (.cons (.var 0) .nil)))) .nil)) .nil)
noncomputable def d_guessed_text : FD := { id := 39, np := 1, dfl := [], sl := [some (Str.ofString "octets")], body := b_guessed_text }
/-- is_word_sign -/
noncomputable def b_is_word_sign : Ss := (.cons (.ret (.andE (.cons (.cmp2 .le .le (.k (.int 33)) (.var 0) (.k (.int 126))) (.cons (.cmp .ne (.var 0) (.k (.int 63))) .nil)))) .nil)
noncomputable def d_is_word_sign : FD := { id := 40, np := 1, dfl := [], sl := [some (Str.ofString "code")], body := b_is_word_sign }
noncomputable def t0_part_end : E := (.andE (.cons (.cmp .lt (.var 2) (.bi .len (.cons (.var 0) .nil))) (.cons (.call 40 (.cons (.idx (.var 0) (.var 2)) .nil)) .nil)))
noncomputable def l0_part_end : Ss := (.cons (.assign 2 (.bin .add (.var 2) (.k (.int 1)))) .nil)
/-- part_end -/
noncomputable def b_part_end : Ss := (.cons (.assign 2 (.var 1)) (.cons (.whil t0_part_end l0_part_end) (.cons (.ret (.ite (.andE (.cons (.cmp .lt (.var 2) (.bi .len (.cons (.var 0) .nil))) (.cons (.cmp .eq (.idx (.var 0) (.var 2)) (.k (.int 63))) .nil))) (.var 2) (.neg (.k (.int 1))))) .nil)))
noncomputable def d_part_end : FD := { id := 41, np := 2, dfl := [], sl := [some (Str.ofString "octets"), some (Str.ofString "at"), some (Str.ofString "here")], body := b_part_end }
noncomputable def l0_word_parts : Ss := (.cons (.append 2 (.call 41 (.cons (.var 0) (.cons (.bin .add (.idx (.var 2) (.neg (.k (.int 1)))) (.k (.int 1))) .nil)))) (.cons (.iff (.cmp .lt (.idx (.var 2) (.neg (.k (.int 1)))) (.k (.int 0))) (.cons (.ret (.k (.none))) .nil) .nil) .nil))
noncomputable def e0_word_parts : E := (.sl2 (.var 0) (.bin .add (.idx (.var 2) (.var 6)) (.k (.int 1))) (.idx (.var 2) (.bin .add (.var 6) (.k (.int 1)))))
noncomputable def c0_word_parts : E := (.comp 6 e0_word_parts (.bi .range (.cons (.k (.int 3)) .nil)) .nil)
/-- word_parts -/
noncomputable def b_word_parts : Ss := (.cons (.iff (.cmp .ne (.sl2 (.var 0) (.var 1) (.bin .add (.var 1) (.k (.int 2)))) (.k (.bytes [61, 63]))) (.cons (.ret (.k (.none))) .nil) .nil) (.cons (.new 2 (.cons (.bin .add (.var 1) (.k (.int 1))) .nil)) (.cons (.for_ 3 (.bi .range (.cons (.k (.int 3)) .nil)) l0_word_parts) (.cons (.assign 4 (.bin .add (.idx (.var 2) (.k (.int 3))) (.k (.int 2)))) (.cons (.iff (.cmp .ne (.sl2 (.var 0) (.idx (.var 2) (.k (.int 3))) (.var 4)) (.k (.bytes [63, 61]))) (.cons (.ret (.k (.none))) .nil) .nil) (.cons (.assign 5 c0_word_parts) (.cons (.ret (.tup (.cons (.idx (.var 5) (.k (.int 0))) (.cons (.idx (.var 5) (.k (.int 1))) (.cons (.idx (.var 5) (.k (.int 2))) (.cons (.var 4) .nil)))))) .nil)))))))
noncomputable def d_word_parts : FD := { id := 42, np := 2, dfl := [], sl := [some (Str.ofString "octets"), some (Str.ofString "at"), some (Str.ofString "marks"), some (Str.ofString "turn"), some (Str.ofString "end"), some (Str.ofString "parts"), none], body := b_word_parts }
/-- is_apart -/
noncomputable def b_is_apart : Ss := (.cons (.iff (.andE (.cons (.cmp .gt (.var 1) (.k (.int 0))) (.cons (.cmp .notin (.idx (.var 0) (.bin .sub (.var 1) (.k (.int 1)))) (.glob 14)) (.cons (.cmp .ne (.idx (.var 0) (.bin .sub (.var 1) (.k (.int 1)))) (.glob 15)) .nil)))) (.cons (.ret (.k (.bool false))) .nil) .nil) (.cons (.ret (.orE (.cons (.cmp .eq (.var 2) (.bi .len (.cons (.var 0) .nil))) (.cons (.cmp .isin (.idx (.var 0) (.var 2)) (.glob 14)) (.cons (.cmp .eq (.idx (.var 0) (.var 2)) (.glob 16)) .nil))))) .nil))
noncomputable def d_is_apart : FD := { id := 43, np := 3, dfl := [], sl := [some (Str.ofString "octets"), some (Str.ofString "begin"), some (Str.ofString "end")], body := b_is_apart }
noncomputable def e0_plain_text : E := (.bi .chr (.cons (.var 1) .nil))
noncomputable def c0_plain_text : E := (.comp 1 e0_plain_text (.var 0) .nil)
/-- plain_text -/
noncomputable def b_plain_text : Ss := (.cons (.ret (.meth .join (.k (.str [])) (.cons c0_plain_text .nil))) .nil)
noncomputable def d_plain_text : FD := { id := 44, np := 1, dfl := [], sl := [some (Str.ofString "octets"), none], body := b_plain_text }
/-- word_at -/
noncomputable def b_word_at : Ss := (.cons (.assign 2 (.call 42 (.cons (.var 0) (.cons (.var 1) .nil)))) (.cons (.iff (.orE (.cons (.cmp .is (.var 2) (.k (.none))) (.cons (.notE (.call 43 (.cons (.var 0) (.cons (.var 1) (.cons (.idx (.var 2) (.k (.int 3))) .nil))))) .nil))) (.cons (.ret (.k (.none))) .nil) .nil) (.cons (.assign 3 (.call 26 (.cons (.idx (.meth .split (.call 44 (.cons (.idx (.var 2) (.k (.int 0))) .nil)) (.cons (.k (.str [42])) .nil)) (.k (.int 0))) .nil))) (.cons (.assign 4 (.meth .upper (.call 44 (.cons (.idx (.var 2) (.k (.int 1))) .nil)) .nil)) (.cons (.iff (.orE (.cons (.cmp .eq (.var 3) (.k (.str []))) (.cons (.cmp .notin (.var 4) (.glob 17)) .nil))) (.cons (.ret (.k (.none))) .nil) .nil) (.cons (.assign 5 (.ite (.cmp .eq (.var 4) (.k (.str [81]))) (.call 30 (.cons (.idx (.var 2) (.k (.int 2))) .nil)) (.call 33 (.cons (.idx (.var 2) (.k (.int 2))) .nil)))) (.cons (.ret (.tup (.cons (.call 37 (.cons (.var 3) (.cons (.var 5) .nil))) (.cons (.idx (.var 2) (.k (.int 3))) .nil)))) .nil)))))))
noncomputable def d_word_at : FD := { id := 45, np := 2, dfl := [], sl := [some (Str.ofString "octets"), some (Str.ofString "at"), some (Str.ofString "found"), some (Str.ofString "charset"), some (Str.ofString "way"), some (Str.ofString "row")], body := b_word_at }
noncomputable def t0_pieces_of : E := (.cmp .lt (.var 3) (.bi .len (.cons (.var 0) .nil)))
noncomputable def l0_pieces_of : Ss := (.cons (.assign 4 (.ite (.cmp .eq (.idx (.var 0) (.var 3)) (.k (.int 61))) (.call 45 (.cons (.var 0) (.cons (.var 3) .nil))) (.k (.none)))) (.cons (.iff (.cmp .is (.var 4) (.k (.none))) (.cons (.assign 3 (.bin .add (.var 3) (.k (.int 1)))) .nil) (.cons (.append 1 (.tup (.cons (.k (.bool false)) (.cons (.sl2 (.var 0) (.var 2) (.var 3)) .nil)))) (.cons (.append 1 (.tup (.cons (.k (.bool true)) (.cons (.idx (.var 4) (.k (.int 0))) .nil)))) (.cons (.assign 3 (.idx (.var 4) (.k (.int 1)))) (.cons (.assign 2 (.var 3)) .nil))))) .nil))
/-- pieces_of -/
noncomputable def b_pieces_of : Ss := (.cons (.new 1 .nil) (.cons (.assign 2 (.k (.int 0))) (.cons (.assign 3 (.k (.int 0))) (.cons (.whil t0_pieces_of l0_pieces_of) (.cons (.ret (.bin .add (.var 1) (.lst (.cons (.tup (.cons (.k (.bool false)) (.cons (.sl1 (.var 0) (.var 2)) .nil))) .nil)))) .nil)))))
noncomputable def d_pieces_of : FD := { id := 46, np := 1, dfl := [], sl := [some (Str.ofString "octets"), some (Str.ofString "pieces"), some (Str.ofString "begun"), some (Str.ofString "at"), some (Str.ofString "found")], body := b_pieces_of }
noncomputable def e0_all_white : E := (.var 1)
noncomputable def q0_all_white : Es := (.cons (.cmp .notin (.var 1) (.glob 14)) .nil)
noncomputable def c0_all_white : E := (.comp 1 e0_all_white (.var 0) q0_all_white)
/-- all_white -/
noncomputable def b_all_white : Ss := (.cons (.ret (.cmp .eq c0_all_white (.lst .nil))) .nil)
noncomputable def d_all_white : FD := { id := 47, np := 1, dfl := [], sl := [some (Str.ofString "octets"), none], body := b_all_white }
noncomputable def l0_decoded_words : Ss := (.cons (.unpack [4, 5] (.idx (.var 1) (.var 3))) (.cons (.iff (.var 4) (.cons (.append 2 (.var 5)) .nil) (.cons (.iff (.notE (.andE (.cons (.cmp2 .lt .lt (.k (.int 0)) (.var 3) (.bin .sub (.bi .len (.cons (.var 1) .nil)) (.k (.int 1)))) (.cons (.call 47 (.cons (.var 5) .nil)) .nil)))) (.cons (.append 2 (.call 39 (.cons (.var 5) .nil))) .nil) .nil) .nil)) .nil))
/-- decoded_words -/
noncomputable def b_decoded_words : Ss := (.cons (.assign 1 (.call 46 (.cons (.var 0) .nil))) (.cons (.new 2 .nil) (.cons (.for_ 3 (.bi .range (.cons (.bi .len (.cons (.var 1) .nil)) .nil)) l0_decoded_words) (.cons (.ret (.meth .join (.k (.str [])) (.cons (.var 2) .nil))) .nil))))
noncomputable def d_decoded_words : FD := { id := 48, np := 1, dfl := [], sl := [some (Str.ofString "octets"), some (Str.ofString "pieces"), some (Str.ofString "found"), some (Str.ofString "spot"), some (Str.ofString "is_word"), some (Str.ofString "worth")], body := b_decoded_words }
/-- _law_is_needy -/
noncomputable def b_law_is_needy : Ss := (.cons (.assign 2 (.idx (.var 0) (.var 1))) (.cons (.iff (.cmp .eq (.var 2) (.k (.str [32]))) (.cons (.ret (.cmp .isin (.var 1) (.tup (.cons (.k (.int 0)) (.cons (.bin .sub (.bi .len (.cons (.var 0) .nil)) (.k (.int 1))) .nil))))) .nil) .nil) (.cons (.iff (.notE (.cmp2 .le .le (.k (.str [33])) (.var 2) (.k (.str [126])))) (.cons (.ret (.k (.bool true))) .nil) .nil) (.cons (.ret (.orE (.cons (.andE (.cons (.cmp .eq (.var 2) (.k (.str [61]))) (.cons (.cmp .eq (.sl2 (.var 0) (.bin .add (.var 1) (.k (.int 1))) (.bin .add (.var 1) (.k (.int 2)))) (.k (.str [63]))) .nil))) (.cons (.andE (.cons (.cmp .eq (.var 2) (.k (.str [63]))) (.cons (.cmp .gt (.var 1) (.k (.int 0))) (.cons (.cmp .eq (.idx (.var 0) (.bin .sub (.var 1) (.k (.int 1)))) (.k (.str [61]))) .nil)))) .nil)))) .nil))))
noncomputable def d_law_is_needy : FD := { id := 49, np := 2, dfl := [], sl := [some (Str.ofString "words"), some (Str.ofString "at"), some (Str.ofString "sign")], body := b_law_is_needy }
noncomputable def t0_law_row_begin : E := (.andE (.cons (.cmp .gt (.var 1) (.k (.int 0))) (.cons (.cmp .ne (.idx (.var 0) (.bin .sub (.var 1) (.k (.int 1)))) (.k (.str [32]))) .nil)))
noncomputable def l0_law_row_begin : Ss := (.cons (.assign 1 (.bin .sub (.var 1) (.k (.int 1)))) .nil)
/-- _law_row_begin -/
noncomputable def b_law_row_begin : Ss := (.cons (.whil t0_law_row_begin l0_law_row_begin) (.cons (.ret (.var 1)) .nil))
noncomputable def d_law_row_begin : FD := { id := 50, np := 2, dfl := [], sl := [some (Str.ofString "words"), some (Str.ofString "at")], body := b_law_row_begin }
noncomputable def t0_law_row_end : E := (.andE (.cons (.cmp .lt (.var 1) (.bi .len (.cons (.var 0) .nil))) (.cons (.cmp .ne (.idx (.var 0) (.var 1)) (.k (.str [32]))) .nil)))
noncomputable def l0_law_row_end : Ss := (.cons (.assign 1 (.bin .add (.var 1) (.k (.int 1)))) .nil)
/-- _law_row_end -/
noncomputable def b_law_row_end : Ss := (.cons (.whil t0_law_row_end l0_law_row_end) (.cons (.ret (.var 1)) .nil))
noncomputable def d_law_row_end : FD := { id := 51, np := 2, dfl := [], sl := [some (Str.ofString "words"), some (Str.ofString "at")], body := b_law_row_end }
/-- a draw -/
noncomputable def b_law_draw : Ss := (.cons (.iff (.cmp .gt (.idx (.var 0) (.k (.int 2))) (.k (.int 0))) (.cons (.assign 2 (.bin .mod (.bi .int (.cons (.idx (.var 0) (.k (.int 2))) .nil)) (.var 1))) (.cons (.setd 0 (.k (.int 2)) (.bin .fdiv (.bi .int (.cons (.idx (.var 0) (.k (.int 2))) .nil)) (.var 1))) (.cons (.ret (.var 2)) .nil))) .nil) (.cons (.assign 3 (.idx (.var 0) (.k (.int 1)))) (.cons (.setd 0 (.k (.int 1)) (.bin .add (.var 3) (.k (.int 1)))) (.cons (.assign 4 (.bin .add (.bin .add (.bin .mul (.k (.int 20947)) (.var 3)) (.k (.int 3571))) (.bin .mod (.bi .int (.cons (.bi .sum (.cons (.sl0 (.idx (.var 0) (.k (.int 0))) (.k (.int 1))) .nil)) .nil)) (.k (.int 1000003))))) (.cons (.iff (.cmp .ne (.idx (.var 0) (.k (.int 0))) (.lst .nil)) (.cons (.assign 4 (.idx (.idx (.var 0) (.k (.int 0))) (.bin .mod (.bi .int (.cons (.var 3) .nil)) (.bi .len (.cons (.idx (.var 0) (.k (.int 0))) .nil))))) .nil) .nil) (.cons (.iff (.andE (.cons (.cmp .lt (.var 3) (.bi .len (.cons (.idx (.var 0) (.k (.int 0))) .nil))) (.cons (.cmp .ge (.bi .abs (.cons (.var 4) .nil)) (.bin .pow (.k (.int 10)) (.k (.int 18)))) .nil))) (.cons (.assign 5 (.bin .add (.bin .mul (.k (.int 2)) (.bin .sub (.bi .abs (.cons (.var 4) .nil)) (.bin .pow (.k (.int 10)) (.k (.int 18))))) (.bi .int (.cons (.cmp .lt (.var 4) (.k (.int 0))) .nil)))) (.cons (.setd 0 (.k (.int 2)) (.bin .fdiv (.bi .int (.cons (.var 5) .nil)) (.var 1))) (.cons (.ret (.bin .mod (.bi .int (.cons (.var 5) .nil)) (.var 1))) .nil))) .nil) (.cons (.assign 6 (.bin .mod (.bi .int (.cons (.bin .pow (.bin .add (.bin .add (.bin .mod (.bi .int (.cons (.var 4) .nil)) (.k (.int 2147483587))) (.bin .mul (.k (.int 20947)) (.var 3))) (.k (.int 3571))) (.k (.int 5))) .nil)) (.k (.int 2147483629)))) (.cons (.assign 6 (.bin .mod (.bi .int (.cons (.bin .pow (.bin .add (.bin .add (.bin .mul (.var 6) (.bin .add (.bin .mul (.k (.int 2)) (.var 3)) (.k (.int 7207)))) (.bin .mul (.bin .mul (.k (.int 20947)) (.var 3)) (.var 3))) (.k (.int 31))) (.k (.int 3))) .nil)) (.k (.int 2147483579)))) (.cons (.ret (.bin .mod (.bi .int (.cons (.bin .fdiv (.var 6) (.k (.int 32))) .nil)) (.var 1))) .nil)))))))))
noncomputable def d_law_draw : FD := { id := 53, np := 2, dfl := [], sl := [some (Str.ofString "pen"), some (Str.ofString "many"), some (Str.ofString "digit"), some (Str.ofString "spot"), some (Str.ofString "cell"), some (Str.ofString "great"), some (Str.ofString "stirred")], body := b_law_draw }
noncomputable def e0_law_pen : E := (.bi .int (.cons (.var 1) .nil))
noncomputable def c0_law_pen : E := (.comp 1 e0_law_pen (.sl0 (.var 0) (.k (.int 40))) .nil)
noncomputable def d_law_pen : FD := { id := 52, np := 1, dfl := [], sl := [some (Str.ofString "script"), none], body := .nil }
noncomputable def d_law_pick : FD := { id := 54, np := 2, dfl := [], sl := [some (Str.ofString "pen"), some (Str.ofString "some")], body := .nil }
noncomputable def e0_law : E := (.var 13)
noncomputable def q0_law : Es := (.cons (.call 49 (.cons (.var 2) (.cons (.var 13) .nil))) .nil)
noncomputable def c0_law : E := (.comp 13 e0_law (.bi .range (.cons (.bi .len (.cons (.var 2) .nil)) .nil)) q0_law)
noncomputable def l0_law : Ss := (.cons (.iff (.orE (.cons (.cmp .ne (.sl0 (.var 11) (.k (.int 2))) (.k (.bytes [61, 63]))) (.cons (.cmp .ne (.sl1 (.var 11) (.neg (.k (.int 2)))) (.k (.bytes [63, 61]))) (.cons (.cmp .ne (.meth .count (.var 11) (.cons (.k (.bytes [63])) .nil)) (.k (.int 4))) .nil)))) (.cons (.ret (.k (.bool false))) .nil) .nil) .nil)
noncomputable def l1_law : Ss := (.cons (.iff (.cmp .ne (.call 22 (.cons (.var 12) .nil)) (.call 6 (.cons (.k (.str [117, 115, 45, 97, 115, 99, 105, 105])) (.cons (.var 12) .nil)))) (.cons (.ret (.k (.bool false))) .nil) .nil) .nil)
/-- the rest of the law -/
noncomputable def b_law : Ss := (.cons (.assign 4 c0_law) (.cons (.unpack [5, 6] (.call 1 (.cons (.var 2) .nil))) (.cons (.assign 7 (.call 22 (.cons (.var 2) .nil))) (.cons (.iff (.cmp .eq (.var 4) (.lst .nil)) (.cons (.ret (.andE (.cons (.cmp .eq (.tup (.cons (.var 5) (.cons (.var 6) .nil))) (.tup (.cons (.k (.int 0)) (.cons (.k (.int 0)) .nil)))) (.cons (.cmp .eq (.var 7) (.call 6 (.cons (.k (.str [117, 115, 45, 97, 115, 99, 105, 105])) (.cons (.var 2) .nil)))) .nil)))) .nil) .nil) (.cons (.iff (.cmp .ne (.tup (.cons (.var 5) (.cons (.var 6) .nil))) (.tup (.cons (.call 50 (.cons (.var 2) (.cons (.idx (.var 4) (.k (.int 0))) .nil))) (.cons (.call 51 (.cons (.var 2) (.cons (.bin .add (.idx (.var 4) (.neg (.k (.int 1)))) (.k (.int 1))) .nil))) .nil)))) (.cons (.ret (.k (.bool false))) .nil) .nil) (.cons (.unpack [8, 9] (.tup (.cons (.call 6 (.cons (.k (.str [117, 115, 45, 97, 115, 99, 105, 105])) (.cons (.sl0 (.var 2) (.var 5)) .nil))) (.cons (.call 6 (.cons (.k (.str [117, 115, 45, 97, 115, 99, 105, 105])) (.cons (.sl1 (.var 2) (.var 6)) .nil))) .nil)))) (.cons (.iff (.orE (.cons (.cmp .notin (.sl1 (.var 8) (.neg (.k (.int 1)))) (.tup (.cons (.k (.bytes [])) (.cons (.k (.bytes [32])) .nil)))) (.cons (.cmp .notin (.sl0 (.var 9) (.k (.int 1))) (.tup (.cons (.k (.bytes [])) (.cons (.k (.bytes [32])) .nil)))) .nil))) (.cons (.ret (.k (.bool false))) .nil) .nil) (.cons (.iff (.orE (.cons (.cmp .ne (.sl0 (.var 7) (.bi .len (.cons (.var 8) .nil))) (.var 8)) (.cons (.cmp .ne (.sl1 (.var 7) (.bin .sub (.bi .len (.cons (.var 7) .nil)) (.bi .len (.cons (.var 9) .nil)))) (.var 9)) .nil))) (.cons (.ret (.k (.bool false))) .nil) .nil) (.cons (.assign 10 (.sl2 (.var 7) (.bi .len (.cons (.var 8) .nil)) (.bin .sub (.bi .len (.cons (.var 7) .nil)) (.bi .len (.cons (.var 9) .nil))))) (.cons (.for_ 11 (.meth .split (.var 10) (.cons (.k (.bytes [32])) .nil)) l0_law) (.cons (.iff (.cmp .ne (.call 48 (.cons (.var 10) .nil)) (.sl2 (.var 2) (.var 5) (.var 6))) (.cons (.ret (.k (.bool false))) .nil) .nil) (.cons (.for_ 12 (.tup (.cons (.meth .strip (.sl0 (.var 2) (.var 5)) (.cons (.k (.str [32])) .nil)) (.cons (.meth .strip (.sl1 (.var 2) (.var 6)) (.cons (.k (.str [32])) .nil)) .nil))) l1_law) (.cons (.ret (.k (.bool true))) .nil)))))))))))))
noncomputable def sl_law : Sls := [some (Str.ofString "script"), some (Str.ofString "pen"), some (Str.ofString "words"), some (Str.ofString "lap"), some (Str.ofString "needy"), some (Str.ofString "begin"), some (Str.ofString "end"), some (Str.ofString "told_octets"), some (Str.ofString "ahead"), some (Str.ofString "behind"), some (Str.ofString "inner"), some (Str.ofString "row"), some (Str.ofString "part"), none]
noncomputable def d_law : FD := { id := 55, np := 1, dfl := [], sl := sl_law, body := b_law }
noncomputable def tbl : List FD := [d_needs_word, d_encoded_span, d_utf8_length, d_utf8_octets, d_need_charset, d_has_sign, d_octets_in, d_best_charset, d_quoted_code, d_word_q_encoded, d_group_codes, d_part_encoded, d_one_line, d_in_lines, d_encoded, d_payload, d_framed_word, d_encoded_word, d_sign_sizes, d_chunk_ends, d_words_of, d_shorter_words, d_encoded_words, d_lower_code, d_lower_text, d_charset_names, d_charset_name, d_hex_worth, d_quoted_at, d_unquoted, d_word_q_decoded, d_group_octets, d_decoded, d_follower_span, d_utf8_sign, d_sign_at, d_text_in, d_strict_text, d_guessed_text, d_is_word_sign, d_part_end, d_word_parts, d_is_apart, d_plain_text, d_word_at, d_pieces_of, d_all_white, d_decoded_words, d_law_is_needy, d_law_row_begin, d_law_row_end]
end Mine

end
section
open PySem PySem.W PyProof.Rows PySem.Calls
set_option Elab.async false
set_option autoImplicit false
namespace Mine
noncomputable def signsL : List Nat := [65, 66, 67, 68, 69, 70, 71, 72, 73, 74, 75, 76, 77, 78, 79, 80, 81, 82, 83, 84, 85, 86, 87, 88, 89, 90, 97, 98, 99, 100, 101, 102, 103, 104, 105, 106, 107, 108, 109, 110, 111, 112, 113, 114, 115, 116, 117, 118, 119, 120, 121, 122, 48, 49, 50, 51, 52, 53, 54, 55, 56, 57, 43, 47]
noncomputable def wordSignsL : List Nat := [65, 66, 67, 68, 69, 70, 71, 72, 73, 74, 75, 76, 77, 78, 79, 80, 81, 82, 83, 84, 85, 86, 87, 88, 89, 90, 97, 98, 99, 100, 101, 102, 103, 104, 105, 106, 107, 108, 109, 110, 111, 112, 113, 114, 115, 116, 117, 118, 119, 120, 121, 122, 48, 49, 50, 51, 52, 53, 54, 55, 56, 57, 33, 42, 43, 45, 47]
noncomputable def hexL : List Nat := [48, 49, 50, 51, 52, 53, 54, 55, 56, 57, 65, 66, 67, 68, 69, 70]
noncomputable def asciiL : List Nat := [117, 115, 45, 97, 115, 99, 105, 105]
noncomputable def latinL : List Nat := [105, 115, 111, 45, 56, 56, 53, 57, 45, 49]
noncomputable def utf8L : List Nat := [117, 116, 102, 45, 56]
noncomputable def Gl : Gls
  | 0 => some (.sc (.bytes signsL))
  | 1 => some (.sc (.int 61))
  | 2 => some (.sc (.bytes [13, 10]))
  | 3 => some (.sc (.str asciiL))
  | 4 => some (.sc (.str latinL))
  | 5 => some (.sc (.str utf8L))
  | 6 => some (.tup [.str asciiL, .str latinL, .str utf8L])
  | 7 => some (.sc (.str [65533]))
  | 8 => some (.sc (.int 61))
  | 9 => some (.sc (.int 32))
  | 10 => some (.sc (.int 95))
  | 11 => some (.sc (.bytes hexL))
  | 12 => some (.sc (.bytes wordSignsL))
  | 13 => some (.sc (.int 75))
  | 14 => some (.tup [.int 9, .int 10, .int 13, .int 32])
  | 15 => some (.sc (.int 40))
  | 16 => some (.sc (.int 41))
  | 17 => some (.tup [.str [81], .str [66]])
  | _ => none
noncomputable def worthL : List (Int × Sc) := (List.range 64).map fun i => ((signsL.getD i 0 : Int), .int i)
noncomputable def spF : Fns := fun f args => if f = 31 then match args with
  | [.sc (.bytes l)] => if l = signsL then some (.dctI worthL) else none
  | _ => none
  else none
noncomputable abbrev FF (n : Nat) : Fns := Fn tbl spF Gl 1000 n
end Mine

end
section
set_option Elab.async false
set_option autoImplicit false
namespace Mine
noncomputable def fin (q : List Slot × Out) : Option PV := match q.2 with
  | .ret p => some p
  | .next => some (.sc .none)
  | _ => none
theorem r_needs_word (n : Nat) (a0 a1 : PV) : FF (n + 1) 0 [a0, a1] = (execs (FF n) Gl 1000 [.val a0, .val a1] b_needs_word).bind fin := rfl
theorem r_encoded_span (n : Nat) (a0 : PV) : FF (n + 1) 1 [a0] = (execs (FF n) Gl 1000 [.val a0, .un, .un, .un, .un] b_encoded_span).bind fin := rfl
theorem r_octets_in (n : Nat) (a0 a1 : PV) : FF (n + 1) 6 [a0, a1] = (execs (FF n) Gl 1000 [.val a0, .val a1, .un, .un, .un] b_octets_in).bind fin := rfl
theorem r_best_charset (n : Nat) (a0 : PV) : FF (n + 1) 7 [a0] = (execs (FF n) Gl 1000 [.val a0, .un, .un] b_best_charset).bind fin := rfl
theorem r_word_q_encoded (n : Nat) (a0 : PV) : FF (n + 1) 9 [a0] = (execs (FF n) Gl 1000 [.val a0, .un, .un] b_word_q_encoded).bind fin := rfl
theorem r_group_codes (n : Nat) (a0 a1 : PV) : FF (n + 1) 10 [a0, a1] = (execs (FF n) Gl 1000 [.val a0, .val a1, .un, .un, .un, .un] b_group_codes).bind fin := rfl
theorem r_part_encoded (n : Nat) (a0 a1 : PV) : FF (n + 1) 11 [a0, a1] = (execs (FF n) Gl 1000 [.val a0, .val a1, .un, .un] b_part_encoded).bind fin := rfl
theorem r_one_line (n : Nat) (a0 : PV) : FF (n + 1) 12 [a0] = (execs (FF n) Gl 1000 [.val a0] b_one_line).bind fin := rfl
theorem r_in_lines (n : Nat) (a0 a1 : PV) : FF (n + 1) 13 [a0, a1] = (execs (FF n) Gl 1000 [.val a0, .val a1, .un] b_in_lines).bind fin := rfl
theorem r_encoded (n : Nat) (a0 a1 : PV) : FF (n + 1) 14 [a0, a1] = (execs (FF n) Gl 1000 [.val a0, .val a1] b_encoded).bind fin := rfl
theorem r_payload (n : Nat) (a0 a1 : PV) : FF (n + 1) 15 [a0, a1] = (execs (FF n) Gl 1000 [.val a0, .val a1] b_payload).bind fin := rfl
theorem r_framed_word (n : Nat) (a0 a1 a2 : PV) : FF (n + 1) 16 [a0, a1, a2] = (execs (FF n) Gl 1000 [.val a0, .val a1, .val a2, .un] b_framed_word).bind fin := rfl
theorem r_encoded_word (n : Nat) (a0 a1 a2 : PV) : FF (n + 1) 17 [a0, a1, a2] = (execs (FF n) Gl 1000 [.val a0, .val a1, .val a2, .un] b_encoded_word).bind fin := rfl
theorem r_sign_sizes (n : Nat) (a0 a1 a2 : PV) : FF (n + 1) 18 [a0, a1, a2] = (execs (FF n) Gl 1000 [.val a0, .val a1, .val a2, .un, .un, .un] b_sign_sizes).bind fin := rfl
theorem r_chunk_ends (n : Nat) (a0 a1 : PV) : FF (n + 1) 19 [a0, a1] = (execs (FF n) Gl 1000 [.val a0, .val a1, .un, .un, .un] b_chunk_ends).bind fin := rfl
theorem r_words_of (n : Nat) (a0 a1 a2 a3 : PV) : FF (n + 1) 20 [a0, a1, a2, a3] = (execs (FF n) Gl 1000 [.val a0, .val a1, .val a2, .val a3, .un, .un, .un, .un] b_words_of).bind fin := rfl
theorem r_shorter_words (n : Nat) (a0 a1 a2 : PV) : FF (n + 1) 21 [a0, a1, a2] = (execs (FF n) Gl 1000 [.val a0, .val a1, .val a2, .un, .un] b_shorter_words).bind fin := rfl
theorem r1_encoded_words (n : Nat) (a0 : PV) : FF (n + 1) 22 [a0] = (execs (FF n) Gl 1000 [.val a0, .val (.sc (.int 75)), .un, .un, .un] b_encoded_words).bind fin := rfl
theorem r_quoted_at (n : Nat) (a0 a1 : PV) : FF (n + 1) 28 [a0, a1] = (execs (FF n) Gl 1000 [.val a0, .val a1, .un, .un] b_quoted_at).bind fin := rfl
theorem r_unquoted (n : Nat) (a0 : PV) : FF (n + 1) 29 [a0] = (execs (FF n) Gl 1000 [.val a0, .un, .un, .un] b_unquoted).bind fin := rfl
theorem r_word_q_decoded (n : Nat) (a0 : PV) : FF (n + 1) 30 [a0] = (execs (FF n) Gl 1000 [.val a0, .un] b_word_q_decoded).bind fin := rfl
theorem r_group_octets (n : Nat) (a0 : PV) : FF (n + 1) 32 [a0] = (execs (FF n) Gl 1000 [.val a0, .un, .un, .un, .un, .un, .un] b_group_octets).bind fin := rfl
theorem r_decoded (n : Nat) (a0 : PV) : FF (n + 1) 33 [a0] = (execs (FF n) Gl 1000 [.val a0, .un, .un, .un, .un, .un] b_decoded).bind fin := rfl
theorem r_utf8_sign (n : Nat) (a0 a1 : PV) : FF (n + 1) 35 [a0, a1] = (execs (FF n) Gl 1000 [.val a0, .val a1, .un, .un, .un, .un, .un, .un] b_utf8_sign).bind fin := rfl
theorem r_sign_at (n : Nat) (a0 a1 a2 : PV) : FF (n + 1) 36 [a0, a1, a2] = (execs (FF n) Gl 1000 [.val a0, .val a1, .val a2] b_sign_at).bind fin := rfl
theorem r_text_in (n : Nat) (a0 a1 : PV) : FF (n + 1) 37 [a0, a1] = (execs (FF n) Gl 1000 [.val a0, .val a1, .un, .un, .un, .un] b_text_in).bind fin := rfl
theorem r_is_word_sign (n : Nat) (a0 : PV) : FF (n + 1) 40 [a0] = (execs (FF n) Gl 1000 [.val a0] b_is_word_sign).bind fin := rfl
theorem r_part_end (n : Nat) (a0 a1 : PV) : FF (n + 1) 41 [a0, a1] = (execs (FF n) Gl 1000 [.val a0, .val a1, .un] b_part_end).bind fin := rfl
theorem r_word_parts (n : Nat) (a0 a1 : PV) : FF (n + 1) 42 [a0, a1] = (execs (FF n) Gl 1000 [.val a0, .val a1, .un, .un, .un, .un, .un] b_word_parts).bind fin := rfl
theorem r_is_apart (n : Nat) (a0 a1 a2 : PV) : FF (n + 1) 43 [a0, a1, a2] = (execs (FF n) Gl 1000 [.val a0, .val a1, .val a2] b_is_apart).bind fin := rfl
theorem r_word_at (n : Nat) (a0 a1 : PV) : FF (n + 1) 45 [a0, a1] = (execs (FF n) Gl 1000 [.val a0, .val a1, .un, .un, .un, .un] b_word_at).bind fin := rfl
theorem r_pieces_of (n : Nat) (a0 : PV) : FF (n + 1) 46 [a0] = (execs (FF n) Gl 1000 [.val a0, .un, .un, .un, .un] b_pieces_of).bind fin := rfl
theorem r_decoded_words (n : Nat) (a0 : PV) : FF (n + 1) 48 [a0] = (execs (FF n) Gl 1000 [.val a0, .un, .un, .un, .un, .un] b_decoded_words).bind fin := rfl
theorem r_law_is_needy (n : Nat) (a0 a1 : PV) : FF (n + 1) 49 [a0, a1] = (execs (FF n) Gl 1000 [.val a0, .val a1, .un] b_law_is_needy).bind fin := rfl
theorem r_law_row_begin (n : Nat) (a0 a1 : PV) : FF (n + 1) 50 [a0, a1] = (execs (FF n) Gl 1000 [.val a0, .val a1] b_law_row_begin).bind fin := rfl
theorem r_law_row_end (n : Nat) (a0 a1 : PV) : FF (n + 1) 51 [a0, a1] = (execs (FF n) Gl 1000 [.val a0, .val a1] b_law_row_end).bind fin := rfl
end Mine

end
section
set_option Elab.async false
set_option autoImplicit false
set_option linter.unusedVariables false
namespace Mine
/-- a fact that a run may lean on -/
inductive Fa where
  | p (x : Option PV) (v : PV) (h : x = some v)
  | w (x : Option PV) (v : PV) (h : x = some v)
  | b (x : Option Bool) (v : Bool) (h : x = some v)
  | l (x : Option (List Sc)) (v : List Sc) (h : x = some v)
  | s (x : Option (List Slot × Out)) (v : List Slot × Out) (h : x = some v)
noncomputable abbrev Qu := List (Nat × Fa)
noncomputable abbrev Rs (α : Type) := Option (α × Qu × Prop)
noncomputable abbrev Mm (α : Type) := Qu → Prop → Rs α
section
variable {α β : Type}
@[irreducible] noncomputable def pu (a : α) : Mm α := fun q P => some (a, q, P)
@[irreducible] noncomputable def bd (x : Mm α) (f : α → Mm β) : Mm β := fun q P => (x q P).bind fun r => f r.1 r.2.1 r.2.2
@[irreducible] noncomputable def mp (x : Mm α) (f : α → β) : Mm β := fun q P => (x q P).map fun r => (f r.1, r.2)
@[irreducible] noncomputable def lf (x : Option α) : Mm α := fun q P => x.map fun a => (a, q, P)
noncomputable def cn (c : Bool) (x y : Mm α) : Mm α := if c then x else y
noncomputable def ci (c : Prop) [Decidable c] (x y : Mm α) : Mm α := if c then x else y
/-- what is asked: a fact answers, or it is worked out -/
@[irreducible] noncomputable def ak (g : Fa → Option (Option α × α)) (x : Option α) : Mm α := fun q P => match q with
  | [] => x.map fun a => (a, [], P)
  | (n, f) :: r => match n with
    | 0 => (g f).map fun y => (y.2, r, P ∧ x = y.1)
    | n + 1 => x.map fun a => (a, (n, f) :: r, P)
/-- the whole of it may be a fact -/
@[irreducible] noncomputable def wh (g : Fa → Option (Option α × α)) (x : Option α) (m : Mm α) : Mm α := fun q P => match q with
  | [] => m [] P
  | (n, f) :: r => match n with
    | 0 => one (g f) (fun y => some (y.2, r, P ∧ x = y.1)) (m ((0, f) :: r) P)
    | n + 1 => m ((n + 1, f) :: r) P
end
noncomputable def Fa.p? : Fa → Option (Option PV × PV)
  | .p x v _ => some (x, v)
  | _ => none
noncomputable def Fa.w? : Fa → Option (Option PV × PV)
  | .w x v _ => some (x, v)
  | _ => none
noncomputable def Fa.b? : Fa → Option (Option Bool × Bool)
  | .b x v _ => some (x, v)
  | _ => none
noncomputable def Fa.l? : Fa → Option (Option (List Sc) × List Sc)
  | .l x v _ => some (x, v)
  | _ => none
noncomputable def Fa.s? : Fa → Option (Option (List Slot × Out) × (List Slot × Out))
  | .s x v _ => some (x, v)
  | _ => none
noncomputable def akP (x : Option PV) : Mm PV := ak Fa.p? x
noncomputable def akB (x : Option Bool) : Mm Bool := ak Fa.b? x
noncomputable def akL (x : Option (List Sc)) : Mm (List Sc) := ak Fa.l? x
noncomputable def orW (x : Option PV) (m : Mm PV) : Mm PV := wh Fa.w? x m
noncomputable def orS (x : Option (List Slot × Out)) (m : Mm (List Slot × Out)) : Mm (List Slot × Out) := wh Fa.s? x m
noncomputable def aComp (t : Sc → Mm Bool) (f : Sc → Mm Sc) : List Sc → Mm (List Sc)
  | [] => pu []
  | x :: r => bd (t x) fun b => cn b (bd (f x) fun y => mp (aComp t f r) (y :: ·)) (aComp t f r)
noncomputable def aFor (body : List Slot → Mm (List Slot × Out)) (i : Nat) : List Sc → List Slot → Mm (List Slot × Out)
  | [], ρ => pu (ρ, .next)
  | x :: r, ρ => bd (body (ρ.set i (.val (.sc x)))) fun q => match q.2 with
    | .next | .cont => aFor body i r q.1
    | .brk => pu (q.1, .next)
    | .ret p => pu (q.1, .ret p)
mutual
noncomputable def aEv (F : Fns) (G : Gls) (tmp : Bool) (ρ : List Slot) : E → Mm PV
  | .k c => pu (.sc c)
  | .var i => lf (one (valS ρ[i]?) some (iff' tmp (ownS ρ[i]?)))
  | .glob g => lf (G g)
  | .bin o l r => bd (aEv F G true ρ l) fun p => bd (aEv F G true ρ r) fun q => bd (akP (bop o p q)) fun v => lf (flt tmp v)
  | .neg e => bd (aEv F G true ρ e) fun p => mp (lf (asInt p)) fun i => .sc (.int (-i))
  | .notE _ => lf none
  | .andE es => mp (aAndV F G ρ es) fun b => .sc (.bool b)
  | .orE es => mp (aOrV F G ρ es) fun b => .sc (.bool b)
  | .cmp o l r => bd (aEv F G true ρ l) fun p => bd (aEv F G true ρ r) fun q => mp (akB (cop o p q)) fun b => .sc (.bool b)
  | .cmp2 o1 o2 a b c => bd (aEv F G true ρ a) fun p => bd (aEv F G true ρ b) fun q => bd (akB (cop o1 p q)) fun t =>
      cn t (bd (aEv F G true ρ c) fun r => mp (akB (cop o2 q r)) fun b => .sc (.bool b)) (pu (.sc (.bool false)))
  | .ite t a b => bd (aTst F G ρ t) fun c => cn c (aEv F G tmp ρ a) (aEv F G tmp ρ b)
  | .call f as => bd (aEvs F G false ρ as) fun ps => akP (F f ps)
  | .bi b as => bd (aEvs F G true ρ as) fun ps => akP (biF b ps)
  | .meth m o as => bd (aEv F G true ρ o) fun p => bd (aEvs F G true ρ as) fun ps => akP (meF m p ps)
  | .idx o i => bd (aEv F G true ρ o) fun p => bd (aEv F G true ρ i) fun q => bd (akP (index p q)) fun v => lf (fltI tmp v)
  | .sl0 o b => bd (aEv F G true ρ o) fun p => bd (aEv F G true ρ b) fun q => bd (lf (asInt q)) fun j => akP (slice p none (some j))
  | .sl1 o a => bd (aEv F G true ρ o) fun p => bd (aEv F G true ρ a) fun q => bd (lf (asInt q)) fun i => akP (slice p (some i) none)
  | .sl2 o a b => bd (aEv F G true ρ o) fun p => bd (aEv F G true ρ a) fun q => bd (lf (asInt q)) fun i => bd (aEv F G true ρ b) fun q => bd (lf (asInt q)) fun j => akP (slice p (some i) (some j))
  | .tup es => bd (aEvs F G false ρ es) fun ps => lf ((scs ps).bind fun cs => if cs.length ≤ lim then some (.tup cs) else none)
  | .lst es => bd (aEvs F G false ρ es) fun ps => lf (one (arg1 PV.u? ps) (fun l => some (.lstT [l])) ((scs ps).bind mkL))
  | .comp c elt it cond => orW (ev F G tmp ρ (.comp c elt it cond)) (bd (aEv F G true ρ it) fun p => bd (akL (items p)) fun xs =>
      ci (xs.length ≤ lim) (mp (aComp (fun x => aAndT F G (ρ.set c (.val (.sc x))) cond) (fun x => bd (aEv F G false (ρ.set c (.val (.sc x))) elt) fun v => lf (asSc v)) xs) .lst) (lf none))
  | .dget ks i d => bd (aEv F G true ρ i) fun p => bd (lf (asInt p)) fun i => mp (bd (aEv F G true ρ d) fun v => lf (asSc v)) fun q => match ks.lookup i with
      | some v => .sc (.int v)
      | none => .sc q
noncomputable def aEvs (F : Fns) (G : Gls) (tmp : Bool) (ρ : List Slot) : Es → Mm (List PV)
  | .nil => pu []
  | .cons e r => bd (aEv F G tmp ρ e) fun p => mp (aEvs F G tmp ρ r) (p :: ·)
noncomputable def aAndV (F : Fns) (G : Gls) (ρ : List Slot) : Es → Mm Bool
  | .nil => lf none
  | .cons e .nil => bd (aEv F G true ρ e) fun v => lf (asBool v)
  | .cons e r => bd (bd (aEv F G true ρ e) fun v => lf (asBool v)) fun b => cn b (aAndV F G ρ r) (pu false)
noncomputable def aOrV (F : Fns) (G : Gls) (ρ : List Slot) : Es → Mm Bool
  | .nil => lf none
  | .cons e .nil => bd (aEv F G true ρ e) fun v => lf (asBool v)
  | .cons e r => bd (bd (aEv F G true ρ e) fun v => lf (asBool v)) fun b => cn b (pu true) (aOrV F G ρ r)
noncomputable def aTst (F : Fns) (G : Gls) (ρ : List Slot) : E → Mm Bool
  | .notE e => mp (aTst F G ρ e) (!·)
  | .andE es => aAndT F G ρ es
  | .orE es => aOrT F G ρ es
  | .cmp o l r => bd (aEv F G true ρ l) fun p => bd (aEv F G true ρ r) fun q => akB (cop o p q)
  | .cmp2 o1 o2 a b c => bd (aEv F G true ρ a) fun p => bd (aEv F G true ρ b) fun q => bd (akB (cop o1 p q)) fun t =>
      cn t (bd (aEv F G true ρ c) fun r => akB (cop o2 q r)) (pu false)
  | .ite t a b => bd (aTst F G ρ t) fun c => cn c (aTst F G ρ a) (aTst F G ρ b)
  | .var i => lf ((valS ρ[i]?).bind asBool)
  | .call f as => bd (aEvs F G false ρ as) fun ps => bd (akP (F f ps)) fun v => lf (asBool v)
  | _ => lf none
noncomputable def aAndT (F : Fns) (G : Gls) (ρ : List Slot) : Es → Mm Bool
  | .nil => pu true
  | .cons e r => bd (aTst F G ρ e) fun b => cn b (aAndT F G ρ r) (pu false)
noncomputable def aOrT (F : Fns) (G : Gls) (ρ : List Slot) : Es → Mm Bool
  | .nil => pu false
  | .cons e r => bd (aTst F G ρ e) fun b => cn b (pu true) (aOrT F G ρ r)
end
mutual
noncomputable def aX (F : Fns) (G : Gls) (n : Nat) (ρ : List Slot) : S → Mm (List Slot × Out)
  | .assign i e => mp (aEv F G false ρ e) fun p => (ρ.set i (.val p), .next)
  | .new i es => bd (aEvs F G false ρ es) fun ps => lf ((scs ps).bind fun cs => if cs.length ≤ lim then some (ρ.set i (.own (.lst cs)), .next) else none)
  | .newD i => pu (ρ.set i (.own (.dctS [])), .next)
  | .unpack is e => bd (aEv F G true ρ e) fun p => lf (one p.u? (fun l => (unpackTo is l ρ).map fun ρ' => (ρ', .next)) none)
  | .append i e => bd (lf (ownAt ρ i)) fun p => bd (aEv F G false ρ e) fun q => mp (akP (grow p q)) fun p' => (ρ.set i (.own p'), .next)
  | .extend i e => bd (lf (ownAt ρ i)) fun p => bd (aEv F G false ρ e) fun q => mp (akP (growAll p q)) fun p' => (ρ.set i (.own p'), .next)
  | .insert0 i e => bd (lf (ownAt ρ i)) fun p => bd (aEv F G false ρ e) fun q => mp (akP (growAhead p q)) fun p' => (ρ.set i (.own p'), .next)
  | .setd i k e => bd (aEv F G false ρ e) fun q => bd (lf (ownAt ρ i)) fun p => bd (aEv F G false ρ k) fun k => mp (akP (store p k q)) fun p' => (ρ.set i (.own p'), .next)
  | .iff c a b => bd (aTst F G ρ c) fun t => cn t (aXs F G n ρ a) (aXs F G n ρ b)
  | .whil c b => orS (whileGo (fun ρ => tst F G ρ c) (fun ρ => execs F G n ρ b) n ρ) (lf none)
  | .for_ i e b => bd (aEv F G false ρ e) fun p => bd (akL (items p)) fun xs => orS (forGo (fun ρ => execs F G n ρ b) i xs ρ) (aFor (fun ρ => aXs F G n ρ b) i xs ρ)
  | .ret e => mp (aEv F G true ρ e) fun p => (ρ, .ret p)
  | .drop e => mp (bd (aEv F G false ρ e) fun v => lf (asSc v)) fun _ => (ρ, .next)
  | .cont => pu (ρ, .cont)
  | .brk => pu (ρ, .brk)
  | .try_ b => aXs F G n ρ b
  | .raise => lf none
noncomputable def aXs (F : Fns) (G : Gls) (n : Nat) (ρ : List Slot) : Ss → Mm (List Slot × Out)
  | .nil => pu (ρ, .next)
  | .cons s r => bd (aX F G n ρ s) fun q => match q.2 with
    | .next => aXs F G n q.1 r
    | o => pu (q.1, o)
end
/-- what a run says is so, if its facts fit -/
noncomputable def okR {α : Type} (r : Option α) (P : Prop) : Rs α → Prop
  | none => True
  | some x => x.2.2 → P ∧ r = some x.1
noncomputable def Sd {α : Type} (m : Mm α) (r : Option α) : Prop := ∀ q P, okR r P (m q P)
section
variable {α β : Type}
theorem sd_pu (a : α) : Sd (pu a) (some a) := fun q P => by unfold pu; exact fun p => ⟨p, rfl⟩
theorem ok_bd {r : Option α} {g : α → Option β} {P : Prop} {x : Rs α} {k : α × Qu × Prop → Rs β} (h : okR r P x) (hk : ∀ y, okR (g y.1) y.2.2 (k y)) : okR (r.bind g) P (x.bind k) := by
  cases x with
  | none => trivial
  | some y =>
    have h2 := hk y
    show okR _ _ (k y)
    generalize k y = z at h2 ⊢
    cases z with
    | none => trivial
    | some z => exact fun p => ⟨(h (h2 p).1).1, by rw [(h (h2 p).1).2]; exact (h2 p).2⟩
theorem sd_bd {x : Mm α} {r : Option α} {f : α → Mm β} {g : α → Option β} (hx : Sd x r) (hf : ∀ a, Sd (f a) (g a)) : Sd (bd x f) (r.bind g) := fun q P => by
  unfold bd; exact ok_bd (hx q P) fun y => hf _ _ _
theorem ok_mp {r : Option α} {P : Prop} {x : Rs α} (f : α → β) (h : okR r P x) : okR (r.map f) P (x.map fun y => (f y.1, y.2)) := by
  cases x with
  | none => trivial
  | some y => exact fun p => ⟨(h p).1, by rw [(h p).2]; rfl⟩
theorem sd_mp {x : Mm α} {r : Option α} (f : α → β) (hx : Sd x r) : Sd (mp x f) (r.map f) := fun q P => by
  unfold mp; exact ok_mp f (hx q P)
theorem ok_lf (x : Option α) (q : Qu) (P : Prop) : okR x P (x.map fun a => (a, q, P)) := by
  cases x with
  | none => trivial
  | some a => exact fun p => ⟨p, rfl⟩
theorem sd_lf (x : Option α) : Sd (lf x) x := fun q P => by unfold lf; exact ok_lf x q P
theorem sd_if {c : Prop} [Decidable c] {x y : Mm α} {r t : Option α} (hx : Sd x r) (hy : Sd y t) : Sd (if c then x else y) (if c then r else t) := by
  by_cases h : c
  · rw [if_pos h, if_pos h]; exact hx
  · rw [if_neg h, if_neg h]; exact hy
noncomputable abbrev Okg (g : Fa → Option (Option α × α)) : Prop := ∀ f y, g f = some y → y.1 = some y.2
theorem ok_an {g : Fa → Option (Option α × α)} (hg : Okg g) (x : Option α) (f : Fa) (r : Qu) (P : Prop) : okR x P ((g f).map fun y => (y.2, r, P ∧ x = y.1)) := by
  cases e : g f with
  | none => trivial
  | some y => exact fun p => ⟨p.1, p.2.trans (hg f y e)⟩
theorem sd_ak {g : Fa → Option (Option α × α)} (hg : Okg g) (x : Option α) : Sd (ak g x) x := fun q P => by
  unfold ak
  cases q with
  | nil => exact ok_lf x _ P
  | cons e r =>
    obtain ⟨n, f⟩ := e
    cases n with
    | zero => exact ok_an hg x f r P
    | succ n => exact ok_lf x _ P
theorem ok_one {g : Fa → Option (Option α × α)} (hg : Okg g) (x : Option α) (f : Fa) (r : Qu) (P : Prop) {m : Rs α} (hm : okR x P m) : okR x P (one (g f) (fun y => some (y.2, r, P ∧ x = y.1)) m) := by
  cases e : g f with
  | none => exact hm
  | some y => exact fun p => ⟨p.1, p.2.trans (hg f y e)⟩
theorem sd_wh {g : Fa → Option (Option α × α)} (hg : Okg g) {x : Option α} {m : Mm α} (hm : Sd m x) : Sd (wh g x m) x := fun q P => by
  unfold wh
  cases q with
  | nil => exact hm _ _
  | cons e r =>
    obtain ⟨n, f⟩ := e
    cases n with
    | zero => exact ok_one hg x f r P (hm _ _)
    | succ n => exact hm _ _
theorem sd_of {m : Mm α} {r : Option α} (h : Sd m r) {q q' : Qu} {P : Prop} {a : α} (e : m q True = some (a, q', P)) (p : P) : r = some a := by
  have := h q True
  rw [e] at this
  exact (this p).2
end
theorem p_ok (f : Fa) (y : Option PV × PV) (h : f.p? = some y) : y.1 = some y.2 := by
  cases f with
  | p x v e => cases h; exact e
  | _ => exact ns h
theorem w_ok (f : Fa) (y : Option PV × PV) (h : f.w? = some y) : y.1 = some y.2 := by
  cases f with
  | w x v e => cases h; exact e
  | _ => exact ns h
theorem b_ok (f : Fa) (y : Option Bool × Bool) (h : f.b? = some y) : y.1 = some y.2 := by
  cases f with
  | b x v e => cases h; exact e
  | _ => exact ns h
theorem l_ok (f : Fa) (y : Option (List Sc) × List Sc) (h : f.l? = some y) : y.1 = some y.2 := by
  cases f with
  | l x v e => cases h; exact e
  | _ => exact ns h
theorem s_ok (f : Fa) (y : Option (List Slot × Out) × (List Slot × Out)) (h : f.s? = some y) : y.1 = some y.2 := by
  cases f with
  | s x v e => cases h; exact e
  | _ => exact ns h
theorem sd_P (x : Option PV) : Sd (akP x) x := sd_ak p_ok x
theorem sd_B (x : Option Bool) : Sd (akB x) x := sd_ak b_ok x
theorem sd_L (x : Option (List Sc)) : Sd (akL x) x := sd_ak l_ok x
theorem sd_none {α : Type} {r : Option α} : Sd (lf (none : Option α)) r := fun _ _ => by unfold lf; trivial
theorem sd_comp {t : Sc → Mm Bool} {f : Sc → Mm Sc} {t' : Sc → Option Bool} {f' : Sc → Option Sc} (ht : ∀ x, Sd (t x) (t' x)) (hf : ∀ x, Sd (f x) (f' x)) : ∀ xs, Sd (aComp t f xs) (compGo t' f' xs)
  | [] => sd_pu _
  | x :: r => sd_bd (ht x) fun _ => sd_if (sd_bd (hf x) fun y => sd_mp (y :: ·) (sd_comp ht hf r)) (sd_comp ht hf r)
theorem sd_for {b : List Slot → Mm (List Slot × Out)} {b' : List Slot → Option (List Slot × Out)} {i : Nat} (hb : ∀ ρ, Sd (b ρ) (b' ρ)) : ∀ xs ρ, Sd (aFor b i xs ρ) (forGo b' i xs ρ)
  | [], _ => sd_pu _
  | x :: r, ρ => sd_bd (hb _) fun q => match q with
    | (ρ, .next) => sd_for hb r ρ
    | (ρ, .cont) => sd_for hb r ρ
    | (ρ, .brk) => sd_pu _
    | (ρ, .ret p) => sd_pu _
section
variable (F : Fns) (G : Gls) (n : Nat)
noncomputable abbrev Sa (e : E) : Prop := (∀ tmp ρ, Sd (aEv F G tmp ρ e) (ev F G tmp ρ e)) ∧ ∀ ρ, Sd (aTst F G ρ e) (tst F G ρ e)
noncomputable abbrev Sas (e : Es) : Prop := (∀ tmp ρ, Sd (aEvs F G tmp ρ e) (evs F G tmp ρ e)) ∧ (∀ ρ, Sd (aAndV F G ρ e) (andV F G ρ e)) ∧ (∀ ρ, Sd (aOrV F G ρ e) (orV F G ρ e)) ∧ (∀ ρ, Sd (aAndT F G ρ e) (andT F G ρ e)) ∧ ∀ ρ, Sd (aOrT F G ρ e) (orT F G ρ e)
mutual
theorem sa (e : E) : Sa F G e := match e with
  | .k c => ⟨fun _ _ => sd_pu _, fun _ => sd_none⟩
  | .var i => ⟨fun _ _ => sd_lf _, fun _ => sd_lf _⟩
  | .glob g => ⟨fun _ _ => sd_lf _, fun _ => sd_none⟩
  | .bin o l r => ⟨fun _ _ => sd_bd ((sa l).1 _ _) fun _ => sd_bd ((sa r).1 _ _) fun _ => sd_bd (sd_P _) fun _ => sd_lf _, fun _ => sd_none⟩
  | .neg e => ⟨fun _ _ => sd_bd ((sa e).1 _ _) fun _ => sd_mp _ (sd_lf _), fun _ => sd_none⟩
  | .notE e => ⟨fun _ _ => sd_none, fun _ => sd_mp _ ((sa e).2 _)⟩
  | .andE es => ⟨fun _ _ => sd_mp _ ((sas es).2.1 _), (sas es).2.2.2.1⟩
  | .orE es => ⟨fun _ _ => sd_mp _ ((sas es).2.2.1 _), (sas es).2.2.2.2⟩
  | .cmp o l r => ⟨fun _ _ => sd_bd ((sa l).1 _ _) fun _ => sd_bd ((sa r).1 _ _) fun _ => sd_mp _ (sd_B _), fun _ => sd_bd ((sa l).1 _ _) fun _ => sd_bd ((sa r).1 _ _) fun _ => sd_B _⟩
  | .cmp2 o1 o2 a b c => ⟨fun _ _ => sd_bd ((sa a).1 _ _) fun _ => sd_bd ((sa b).1 _ _) fun _ => sd_bd (sd_B _) fun _ => sd_if (sd_bd ((sa c).1 _ _) fun _ => sd_mp _ (sd_B _)) (sd_pu _),
      fun _ => sd_bd ((sa a).1 _ _) fun _ => sd_bd ((sa b).1 _ _) fun _ => sd_bd (sd_B _) fun _ => sd_if (sd_bd ((sa c).1 _ _) fun _ => sd_B _) (sd_pu _)⟩
  | .ite t a b => ⟨fun _ _ => sd_bd ((sa t).2 _) fun _ => sd_if ((sa a).1 _ _) ((sa b).1 _ _), fun _ => sd_bd ((sa t).2 _) fun _ => sd_if ((sa a).2 _) ((sa b).2 _)⟩
  | .call f as => ⟨fun _ _ => sd_bd ((sas as).1 _ _) fun _ => sd_P _, fun _ => sd_bd ((sas as).1 _ _) fun _ => sd_bd (sd_P _) fun _ => sd_lf _⟩
  | .bi b as => ⟨fun _ _ => sd_bd ((sas as).1 _ _) fun _ => sd_P _, fun _ => sd_none⟩
  | .meth m o as => ⟨fun _ _ => sd_bd ((sa o).1 _ _) fun _ => sd_bd ((sas as).1 _ _) fun _ => sd_P _, fun _ => sd_none⟩
  | .idx o i => ⟨fun _ _ => sd_bd ((sa o).1 _ _) fun _ => sd_bd ((sa i).1 _ _) fun _ => sd_bd (sd_P _) fun _ => sd_lf _, fun _ => sd_none⟩
  | .sl0 o b => ⟨fun _ _ => sd_bd ((sa o).1 _ _) fun _ => sd_bd ((sa b).1 _ _) fun _ => sd_bd (sd_lf _) fun _ => sd_P _, fun _ => sd_none⟩
  | .sl1 o b => ⟨fun _ _ => sd_bd ((sa o).1 _ _) fun _ => sd_bd ((sa b).1 _ _) fun _ => sd_bd (sd_lf _) fun _ => sd_P _, fun _ => sd_none⟩
  | .sl2 o a b => ⟨fun _ _ => sd_bd ((sa o).1 _ _) fun _ => sd_bd ((sa a).1 _ _) fun _ => sd_bd (sd_lf _) fun _ => sd_bd ((sa b).1 _ _) fun _ => sd_bd (sd_lf _) fun _ => sd_P _, fun _ => sd_none⟩
  | .tup es => ⟨fun _ _ => sd_bd ((sas es).1 _ _) fun _ => sd_lf _, fun _ => sd_none⟩
  | .lst es => ⟨fun _ _ => sd_bd ((sas es).1 _ _) fun _ => sd_lf _, fun _ => sd_none⟩
  | .comp c elt it cond => ⟨fun _ _ => sd_wh w_ok (sd_bd ((sa it).1 _ _) fun _ => sd_bd (sd_L _) fun _ => sd_if (sd_mp _ (sd_comp (fun _ => (sas cond).2.2.2.1 _) (fun _ => sd_bd ((sa elt).1 _ _) fun _ => sd_lf _) _)) sd_none), fun _ => sd_none⟩
  | .dget ks i d => ⟨fun _ _ => sd_bd ((sa i).1 _ _) fun _ => sd_bd (sd_lf _) fun _ => sd_mp _ (sd_bd ((sa d).1 _ _) fun _ => sd_lf _), fun _ => sd_none⟩
theorem sas (es : Es) : Sas F G es := match es with
  | .nil => ⟨fun _ _ => sd_pu _, fun _ => sd_none, fun _ => sd_none, fun _ => sd_pu _, fun _ => sd_pu _⟩
  | .cons e .nil => ⟨fun _ _ => sd_bd ((sa e).1 _ _) fun _ => sd_mp _ (sd_pu _), fun _ => sd_bd ((sa e).1 _ _) fun _ => sd_lf _, fun _ => sd_bd ((sa e).1 _ _) fun _ => sd_lf _,
      fun _ => sd_bd ((sa e).2 _) fun _ => sd_if (sd_pu _) (sd_pu _), fun _ => sd_bd ((sa e).2 _) fun _ => sd_if (sd_pu _) (sd_pu _)⟩
  | .cons e (.cons f r) => ⟨fun _ _ => sd_bd ((sa e).1 _ _) fun _ => sd_mp _ ((sas (.cons f r)).1 _ _),
      fun _ => sd_bd (sd_bd ((sa e).1 _ _) fun _ => sd_lf _) fun _ => sd_if ((sas (.cons f r)).2.1 _) (sd_pu _),
      fun _ => sd_bd (sd_bd ((sa e).1 _ _) fun _ => sd_lf _) fun _ => sd_if (sd_pu _) ((sas (.cons f r)).2.2.1 _),
      fun _ => sd_bd ((sa e).2 _) fun _ => sd_if ((sas (.cons f r)).2.2.2.1 _) (sd_pu _),
      fun _ => sd_bd ((sa e).2 _) fun _ => sd_if (sd_pu _) ((sas (.cons f r)).2.2.2.2 _)⟩
end
mutual
theorem sx (c : S) : ∀ ρ, Sd (aX F G n ρ c) (exec F G n ρ c) := match c with
  | .assign i e => fun _ => sd_mp _ ((sa F G e).1 _ _)
  | .new i es => fun _ => sd_bd ((sas F G es).1 _ _) fun _ => sd_lf _
  | .newD i => fun _ => sd_pu _
  | .unpack is e => fun _ => sd_bd ((sa F G e).1 _ _) fun _ => sd_lf _
  | .append i e => fun _ => sd_bd (sd_lf _) fun _ => sd_bd ((sa F G e).1 _ _) fun _ => sd_mp _ (sd_P _)
  | .extend i e => fun _ => sd_bd (sd_lf _) fun _ => sd_bd ((sa F G e).1 _ _) fun _ => sd_mp _ (sd_P _)
  | .insert0 i e => fun _ => sd_bd (sd_lf _) fun _ => sd_bd ((sa F G e).1 _ _) fun _ => sd_mp _ (sd_P _)
  | .setd i k e => fun _ => sd_bd ((sa F G e).1 _ _) fun _ => sd_bd (sd_lf _) fun _ => sd_bd ((sa F G k).1 _ _) fun _ => sd_mp _ (sd_P _)
  | .iff c a b => fun _ => sd_bd ((sa F G c).2 _) fun _ => sd_if (sxs a _) (sxs b _)
  | .whil c b => fun _ => sd_wh s_ok sd_none
  | .for_ i e b => fun _ => sd_bd ((sa F G e).1 _ _) fun _ => sd_bd (sd_L _) fun _ => sd_wh s_ok (sd_for (sxs b) _ _)
  | .ret e => fun _ => sd_mp _ ((sa F G e).1 _ _)
  | .drop e => fun _ => sd_mp _ (sd_bd ((sa F G e).1 _ _) fun _ => sd_lf _)
  | .cont => fun _ => sd_pu _
  | .brk => fun _ => sd_pu _
  | .try_ b => fun _ => sxs b _
  | .raise => fun _ => sd_none
theorem sxs (c : Ss) : ∀ ρ, Sd (aXs F G n ρ c) (execs F G n ρ c) := match c with
  | .nil => fun _ => sd_pu _
  | .cons c r => fun _ => sd_bd (sx c _) fun q => match q with
    | (_, .next) => sxs r _
    | (_, .brk) => sd_pu _
    | (_, .cont) => sd_pu _
    | (_, .ret _) => sd_pu _
end
end
/-- the facts are what was asked -/
noncomputable def Fa.fit : Fa → Prop
  | .p x _ _ => x = x
  | .w x _ _ => x = x
  | .b x _ _ => x = x
  | .l x _ _ => x = x
  | .s x _ _ => x = x
noncomputable def fits : Prop → Qu → Prop
  | P, [] => P
  | P, f :: r => fits (P ∧ f.2.fit) r
theorem fits_ok : ∀ {P : Prop} (q : Qu), P → fits P q
  | _, [], p => p
  | _, (_, f) :: r, p => fits_ok r ⟨p, by cases f <;> rfl⟩
section
variable {F : Fns} {G : Gls} {n : Nat} {ρ : List Slot}
theorem vcS {b : Ss} {r : List Slot × Out} (q : Qu) (h : aXs F G n ρ b q True = some (r, [], fits True q)) : execs F G n ρ b = some r := sd_of (sxs F G n b ρ) h (fits_ok q trivial)
theorem vcT {e : E} {r : Bool} (q : Qu) (h : aTst F G ρ e q True = some (r, [], fits True q)) : tst F G ρ e = some r := sd_of ((sa F G e).2 ρ) h (fits_ok q trivial)
theorem vcE {t : Bool} {e : E} {r : PV} (q : Qu) (h : aEv F G t ρ e q True = some (r, [], fits True q)) : ev F G t ρ e = some r := sd_of ((sa F G e).1 t ρ) h (fits_ok q trivial)
theorem vcA {e : Es} {r : Bool} (q : Qu) (h : aAndT F G ρ e q True = some (r, [], fits True q)) : andT F G ρ e = some r := sd_of ((sas F G e).2.2.2.1 ρ) h (fits_ok q trivial)
theorem vcF {b : Ss} {r : PV} {fn : List Slot × Out → Option PV} (q : Qu) (h : bd (aXs F G n ρ b) (fun x => lf (fn x)) q True = some (r, [], fits True q)) : (execs F G n ρ b).bind fn = some r :=
  sd_of (sd_bd (sxs F G n b ρ) fun x => sd_lf (fn x)) h (fits_ok q trivial)
theorem vcC {t : Bool} {e : E} {r : Sc} (q : Qu) (h : bd (aEv F G t ρ e) (fun x => lf (asSc x)) q True = some (r, [], fits True q)) : (ev F G t ρ e).bind asSc = some r :=
  sd_of (sd_bd ((sa F G e).1 t ρ) fun x => sd_lf (asSc x)) h (fits_ok q trivial)
end
end Mine

end
section
set_option Elab.async false
set_option autoImplicit false
namespace Mine
/-! facts of common form -/
noncomputable abbrev fp {x : Option PV} {v : PV} (h : x = some v) : Fa := .p x v h
noncomputable abbrev fw {x : Option PV} {v : PV} (h : x = some v) : Fa := .w x v h
noncomputable abbrev fb {x : Option Bool} {v : Bool} (h : x = some v) : Fa := .b x v h
noncomputable abbrev fl {x : Option (List Sc)} {v : List Sc} (h : x = some v) : Fa := .l x v h
noncomputable abbrev fs {x : Option (List Slot × Out)} {v : List Slot × Out} (h : x = some v) : Fa := .s x v h
theorem dt {p : Prop} [Decidable p] (h : p = True) : some (decide p) = some true := congrArg some (decide_eq_true (of_eq_true h))
theorem df {p : Prop} [Decidable p] (h : p = False) : some (decide p) = some false := congrArg some (decide_eq_false (of_eq_false h))
/-- p holds, p fails -/
noncomputable abbrev ft' {p : Prop} [Decidable p] (h : p = True) : Fa := .b (some (decide p)) true (dt h)
noncomputable abbrev ff' {p : Prop} [Decidable p] (h : p = False) : Fa := .b (some (decide p)) false (df h)
/-- a Bool is so -/
noncomputable abbrev fq {x v : Bool} (h : x = v) : Fa := .b (some x) v (congrArg some h)
noncomputable abbrev fn {x v : Bool} (h : x = v) : Fa := .b (some !x) (!v) (congrArg (some !·) h)
/-- a number is so -/
noncomputable abbrev fi {a b : Int} (h : a = b) : Fa := .p (some (.sc (.int a))) (.sc (.int b)) (by rw [h])
/-- a number is reckoned -/
noncomputable abbrev fo {x : Option Int} {i : Int} (h : x = some i) : Fa := .p (x.map fun i => .sc (.int i)) (.sc (.int i)) (by rw [h]; rfl)
/-- a list is so -/
noncomputable abbrev fli {a b : List Sc} (h : a = b) : Fa := .p (some (.lst a)) (.lst b) (by rw [h])
noncomputable abbrev flx {a b : List Sc} (h : a = b) : Fa := .l (some a) b (by rw [h])
noncomputable abbrev fst {a b : List Nat} (h : a = b) : Fa := .p (some (.sc (.str a))) (.sc (.str b)) (by rw [h])
noncomputable abbrev fbt {a b : List Nat} (h : a = b) : Fa := .p (some (.sc (.bytes a))) (.sc (.bytes b)) (by rw [h])
noncomputable abbrev fby {x : Option (List Nat)} {v : List Nat} (h : x = some v) : Fa := .p (x.map fun b => .sc (.bytes b)) (.sc (.bytes v)) (by rw [h]; rfl)
/-- p fails, not p is asked -/
noncomputable abbrev fnt {p : Prop} [Decidable p] (h : p = True) : Fa := .b (some !(decide p)) false (by rw [decide_eq_true (of_eq_true h)]; rfl)
noncomputable abbrev fnf {p : Prop} [Decidable p] (h : p = False) : Fa := .b (some !(decide p)) true (by rw [decide_eq_false (of_eq_false h)]; rfl)
/-- a range's bound is small -/
noncomputable abbrev fsm {b : Int} (h : smallI b = true) : Fa := .p (biF .range [.sc (.int b)]) (.rng 0 b 1) (by show (if smallI b then _ else _) = _; rw [h]; rfl)
theorem jb_ok {l : List Sc} {sep : List Nat} {xs : List (List Nat)} {v : PV} (h : toByts l = some xs) (h' : mkB (joinL sep xs) = some v) : meF .join (.sc (.bytes sep)) [.lst l] = some v := by
  show (toByts l).bind _ = _; rw [h]; exact h'
theorem js_ok {l : List Sc} {sep : List Nat} {xs : List (List Nat)} {v : PV} (h : toStrs l = some xs) (h' : mkS (joinL sep xs) = some v) : meF .join (.sc (.str sep)) [.lst l] = some v := by
  show (toStrs l).bind _ = _; rw [h]; exact h'
theorem rg2 {a b : Int} (h : smallI a = true) (h' : smallI b = true) : biF .range [.sc (.int a), .sc (.int b)] = some (.rng a b 1) := by
  show (if smallI a ∧ smallI b then _ else _) = _; rw [h, h']; rfl
theorem rg3 {a b c : Int} (h : smallI a = true) (h' : smallI b = true) (h2 : smallI c = true) (h3 : c ≠ 0) : biF .range [.sc (.int a), .sc (.int b), .sc (.int c)] = some (.rng a b c) := by
  show (if smallI a ∧ smallI b ∧ smallI c ∧ c ≠ 0 then _ else _) = _; rw [if_pos ⟨h, h', h2, h3⟩]
noncomputable abbrev fbn {x : Option Bool} {v : Bool} (h : x = some v) : Fa := .b (x.map (!·)) (!v) (by rw [h]; rfl)
noncomputable abbrev fln {a b : Nat} (h : a = b) : Fa := .p (some (.sc (.int (a : Int)))) (.sc (.int (b : Int))) (by rw [h])
/-! loops, a turn at a time -/
section
variable {t : List Slot → Option Bool} {b : List Slot → Option (List Slot × Out)} {n i : Nat} {ρ ρ' : List Slot} {r : Option (List Slot × Out)} {x : Sc} {l : List Sc} {p : PV}
theorem w_end (h : t ρ = some false) : whileGo t b (n + 1) ρ = some (ρ, .next) := by unfold whileGo; rw [h]; rfl
theorem w_next (h : t ρ = some true) (hb : b ρ = some (ρ', .next)) (hr : whileGo t b n ρ' = r) : whileGo t b (n + 1) ρ = r := by unfold whileGo; rw [h, ← hr]; show Option.bind (b ρ) _ = _; rw [hb]; rfl
theorem w_ret (h : t ρ = some true) (hb : b ρ = some (ρ', .ret p)) : whileGo t b (n + 1) ρ = some (ρ', .ret p) := by unfold whileGo; rw [h]; show Option.bind (b ρ) _ = _; rw [hb]; rfl
theorem f_next (hb : b (ρ.set i (.val (.sc x))) = some (ρ', .next)) (hr : forGo b i l ρ' = r) : forGo b i (x :: l) ρ = r := by unfold forGo; rw [hb, ← hr]; rfl
theorem f_cont (hb : b (ρ.set i (.val (.sc x))) = some (ρ', .cont)) (hr : forGo b i l ρ' = r) : forGo b i (x :: l) ρ = r := by unfold forGo; rw [hb, ← hr]; rfl
theorem f_ret (hb : b (ρ.set i (.val (.sc x))) = some (ρ', .ret p)) : forGo b i (x :: l) ρ = some (ρ', .ret p) := by unfold forGo; rw [hb]; rfl
end
/-! comprehensions -/
theorem cmp_of {F : Fns} {G : Gls} {tmp : Bool} {ρ : List Slot} {c : Nat} {elt it : E} {cond : Es} {p : PV} {xs ys : List Sc} (h1 : ev F G true ρ it = some p) (h2 : items p = some xs) (h3 : xs.length ≤ 65536)
    (h4 : compGo (fun x => andT F G (ρ.set c (.val (.sc x))) cond) (fun x => (ev F G false (ρ.set c (.val (.sc x))) elt).bind asSc) xs = some ys) : ev F G tmp ρ (.comp c elt it cond) = some (.lst ys) := by
  show Option.bind (ev F G true ρ it) _ = _
  rw [h1]
  show Option.bind (items p) _ = _
  rw [h2]
  show (if xs.length ≤ lim then _ else _) = _
  rw [if_pos (by unfold lim; exact h3), h4]
  rfl
theorem cmpM {α : Type} {f : Sc → Option Sc} {i g : α → Sc} : ∀ {xs : List α}, (∀ a ∈ xs, f (i a) = some (g a)) → compGo (fun _ => some true) f (xs.map i) = some (xs.map g)
  | [], _ => rfl
  | x :: r, h => by
    show Option.bind (f (i x)) _ = _
    rw [h x List.mem_cons_self]
    show Option.map _ (compGo _ f (r.map i)) = _
    rw [cmpM fun y hy => h y (List.mem_cons_of_mem _ hy)]; rfl
theorem cmpF {α : Type} {t : Sc → Option Bool} {f : Sc → Option Sc} {i g : α → Sc} {p : α → Bool} : ∀ {xs : List α}, (∀ a ∈ xs, t (i a) = some (p a)) → (∀ a ∈ xs, p a = true → f (i a) = some (g a)) → compGo t f (xs.map i) = some ((xs.filter p).map g)
  | [], _, _ => rfl
  | x :: r, h1, h2 => by
    have ih := cmpF (xs := r) (fun y hy => h1 y (List.mem_cons_of_mem _ hy)) fun y hy => h2 y (List.mem_cons_of_mem _ hy)
    show Option.bind (t (i x)) _ = _
    rw [h1 x List.mem_cons_self, List.filter_cons]
    cases q : p x with
    | true =>
      show Option.bind (f (i x)) _ = _
      rw [h2 x List.mem_cons_self q]
      show Option.map _ (compGo t f (r.map i)) = _
      rw [ih]; rfl
    | false => exact ih
end Mine

end
section
set_option Elab.async false
set_option autoImplicit false
set_option linter.unusedSimpArgs false
set_option linter.unusedVariables false
namespace Mine

/-! ## the evaluator's equations -/
section
variable (F : Fns) (G : Gls) (t : Bool) (ρ : List Slot) (n : Nat)
theorem ev_v0 (p : PV) (r : List Slot) : ev F G t (.val p :: r) (.var 0) = some p := rfl
theorem ev_v1 (a : Slot) (p : PV) (r : List Slot) : ev F G t (a :: .val p :: r) (.var 1) = some p := rfl
theorem ev_bi' (b : Bi) (as : Es) : ev F G t ρ (.bi b as) = (evs F G true ρ as).bind fun ps => biF b ps := rfl
theorem ev_idx' (o i : E) : ev F G t ρ (.idx o i) = (ev F G true ρ o).bind fun p => (ev F G true ρ i).bind fun q => (index p q).bind (fltI t) := rfl
theorem ev_lst' (es : Es) : ev F G t ρ (.lst es) = (evs F G false ρ es).bind fun ps => one (arg1 PV.u? ps) (fun l => some (.lstT [l])) ((scs ps).bind mkL) := rfl
theorem evs_n : evs F G t ρ .nil = some [] := rfl
theorem evs_c (e : E) (r : Es) : evs F G t ρ (.cons e r) = (ev F G t ρ e).bind fun p => (evs F G t ρ r).map (p :: ·) := rfl
end
theorem bop_r (l : List Sc) (n : Int) : bop .mul (.lst l) (.sc (.int n)) = if l.length * n.toNat ≤ lim ∧ n.natAbs ≤ lim then some (.lst (List.replicate n.toNat l).flatten) else none := rfl
theorem fltI_t (r : PV) : fltI true r = some r := rfl
theorem bi_len_b (l : List Nat) : biF .len [.sc (.bytes l)] = some (.sc (.int l.length)) := rfl
theorem bi_chr (i : Int) : biF .chr [.sc (.int i)] = if 0 ≤ i ∧ i < 1114112 then some (.sc (.str [i.toNat])) else none := rfl
theorem bi_r1 (b : Int) : biF .range [.sc (.int b)] = if smallI b then some (.rng 0 b 1) else none := rfl
/-! ## small facts on places and slices -/
theorem iop_mul (a : Int) (b : Nat) (h : b < 1000000) : iop .mul a (b : Int) = some (a * b) := by
  simp only [iop]
  rw [if_pos (.inl (by omega (splitDisjunctions := true)))]
theorem iop_fdiv (a b : Nat) (h : 0 < b) (h2 : b < 1000000) : iop .fdiv (a : Int) (b : Int) = some ((a / b : Nat) : Int) := by
  simp only [iop]
  rw [if_pos (by omega (splitDisjunctions := true)), Int.fdiv_eq_ediv_of_nonneg _ (by omega (splitDisjunctions := true))]
  rfl
theorem pos_nat {n k : Nat} (hk : k < n) (hn : n ≤ 65536) : pos n (k : Int) = some k := by
  unfold pos
  rw [if_pos (by omega)]
  unfold PySem.seqIndex?
  simp only [show ¬((k : Int) < 0) by omega, if_false]
  simp [hk]
theorem pos_last {n : Nat} (hk : 0 < n) (hn : n ≤ 65536) : pos n (-1) = some (n - 1) := by
  unfold pos
  rw [if_pos (by omega)]
  unfold PySem.seqIndex?
  simp only [show (-1 : Int) < 0 by omega, if_true]
  simp; omega
theorem ix_s (l : List Nat) (i : Int) : index (.sc (.str l)) (.sc (.int i)) = (pos l.length i).bind fun k => (l[k]?).map fun c => .sc (.str [c]) := rfl
theorem ix_b (l : List Nat) (i : Int) : index (.sc (.bytes l)) (.sc (.int i)) = (pos l.length i).bind fun k => (l[k]?).map fun (c : Nat) => .sc (.int (c : Int)) := rfl
theorem ix_l (l : List Sc) (i : Int) : index (.lst l) (.sc (.int i)) = (pos l.length i).bind fun k => (l[k]?).map .sc := rfl
theorem ix_t (l : List Sc) (i : Int) : index (.tup l) (.sc (.int i)) = (pos l.length i).bind fun k => (l[k]?).map .sc := rfl
theorem ix_m (l : List (List Sc)) (i : Int) : index (.lstT l) (.sc (.int i)) = (pos l.length i).bind fun k => (l[k]?).map .tup := rfl
theorem idx_str {l : List Nat} {k : Nat} {c : Nat} {i : Int} (h : l[k]? = some c) (hl : l.length ≤ 65536) (hi : i = (k : Int)) : index (.sc (.str l)) (.sc (.int i)) = some (.sc (.str [c])) := by
  subst hi
  rw [ix_s, pos_nat (List.getElem?_eq_some_iff.mp h).1 hl, Option.bind_some, h]; rfl
theorem idx_bytes {l : List Nat} {k : Nat} {c : Nat} {i : Int} (h : l[k]? = some c) (hl : l.length ≤ 65536) (hi : i = (k : Int)) : index (.sc (.bytes l)) (.sc (.int i)) = some (.sc (.int (c : Int))) := by
  subst hi
  rw [ix_b, pos_nat (List.getElem?_eq_some_iff.mp h).1 hl, Option.bind_some, h]; rfl
theorem idx_lst {l : List Sc} {k : Nat} {c : Sc} {i : Int} (h : l[k]? = some c) (hl : l.length ≤ 65536) (hi : i = (k : Int)) : index (.lst l) (.sc (.int i)) = some (.sc c) := by
  subst hi
  rw [ix_l, pos_nat (List.getElem?_eq_some_iff.mp h).1 hl, Option.bind_some, h]; rfl
theorem idx_tup {l : List Sc} {k : Nat} {c : Sc} {i : Int} (h : l[k]? = some c) (hl : l.length ≤ 65536) (hi : i = (k : Int)) : index (.tup l) (.sc (.int i)) = some (.sc c) := by
  subst hi
  rw [ix_t, pos_nat (List.getElem?_eq_some_iff.mp h).1 hl, Option.bind_some, h]; rfl
theorem idx_lstT {l : List (List Sc)} {k : Nat} {c : List Sc} {i : Int} (h : l[k]? = some c) (hl : l.length ≤ 65536) (hi : i = (k : Int)) : index (.lstT l) (.sc (.int i)) = some (.tup c) := by
  subst hi
  rw [ix_m, pos_nat (List.getElem?_eq_some_iff.mp h).1 hl, Option.bind_some, h]; rfl
theorem idx_last {l : List Sc} {c : Sc} (h : l.getLast? = some c) (hl : l.length ≤ 65536) : index (.lst l) (.sc (.int (-1))) = some (.sc c) := by
  rcases l with _ | ⟨a, r⟩
  ·
    cases h
  ·
    have e : (a :: r)[(a :: r).length - 1]? = some c := by rw [← List.getLast?_eq_getElem?]; exact h
    rw [ix_l, pos_last (n := (a :: r).length) (Nat.succ_pos _) hl, Option.bind_some, e]; rfl

theorem clip_nat {n k : Nat} : PySem.clipAt n (k : Int) = min k n := by
  unfold PySem.clipAt
  split <;> omega (splitDisjunctions := true)
theorem clip_neg {n k : Nat} (h : 0 < k) : PySem.clipAt n (-(k : Int)) = n - k := by
  unfold PySem.clipAt
  split <;> omega
theorem cut_none_nat {α : Type} (l : List α) (k : Nat) : cutL l none (some (k : Int)) = l.take k := by
  unfold cutL
  simp only [Option.elim_none, Option.elim_some, clip_nat, List.drop_zero, Nat.sub_zero]
  rw [List.take_eq_take_iff]; omega
theorem cut_nat_none {α : Type} (l : List α) (k : Nat) : cutL l (some (k : Int)) none = l.drop k := by
  unfold cutL
  simp only [Option.elim_none, Option.elim_some, clip_nat]
  by_cases h : k ≤ l.length
  · rw [Nat.min_eq_left h, List.take_of_length_le (by simp)]
  · simp [List.drop_of_length_le (show l.length ≤ k by omega (splitDisjunctions := true))]; omega (splitDisjunctions := true)
theorem cut_nat_nat {α : Type} (l : List α) (a b : Nat) : cutL l (some (a : Int)) (some (b : Int)) = (l.drop a).take (b - a) := by
  unfold cutL
  simp only [Option.elim_some, clip_nat]
  by_cases h : a ≤ l.length
  · rw [Nat.min_eq_left h, List.take_eq_take_iff, List.length_drop, ← Nat.sub_min_sub_right, Nat.min_assoc, Nat.min_self]
  · have h' : l.length ≤ a := Nat.le_of_not_le h
    rw [Nat.min_eq_right h', List.drop_of_length_le h', List.drop_of_length_le (Nat.le_refl _)]; simp
theorem cut_neg_none {α : Type} (l : List α) (k : Nat) (h : 0 < k) : cutL l (some (-(k : Int))) none = l.drop (l.length - k) := by
  unfold cutL
  simp only [Option.elim_none, Option.elim_some, clip_neg h]
  rw [List.take_of_length_le (by simp)]
theorem ok_nat {k : Nat} (h : k ≤ 100000) : okPart (some (k : Int)) = true := by
  unfold okPart; simp; omega (splitDisjunctions := true)
theorem sl_nn_str {l : List Nat} {a b : Nat} {i j : Int} (hi : i = (a : Int)) (hj : j = (b : Int)) (ha : a ≤ 100000) (hb : b ≤ 100000) : slice (.sc (.str l)) (some i) (some j) = some (.sc (.str ((l.drop a).take (b - a)))) := by
  subst hi; subst hj; rw [slice, ok_nat ha, ok_nat hb]; show some _ = _; rw [cut_nat_nat]
theorem sl_0n_str {l : List Nat} {b : Nat} {j : Int} (hj : j = (b : Int)) (hb : b ≤ 100000) : slice (.sc (.str l)) none (some j) = some (.sc (.str (l.take b))) := by
  subst hj; rw [slice, ok_nat hb]; show some _ = _; rw [cut_none_nat]
theorem sl_n0_str {l : List Nat} {a : Nat} {i : Int} (hi : i = (a : Int)) (ha : a ≤ 100000) : slice (.sc (.str l)) (some i) none = some (.sc (.str (l.drop a))) := by
  subst hi; rw [slice, ok_nat ha]; show some _ = _; rw [cut_nat_none]
theorem sl_nn_bytes {l : List Nat} {a b : Nat} {i j : Int} (hi : i = (a : Int)) (hj : j = (b : Int)) (ha : a ≤ 100000) (hb : b ≤ 100000) : slice (.sc (.bytes l)) (some i) (some j) = some (.sc (.bytes ((l.drop a).take (b - a)))) := by
  subst hi; subst hj; rw [slice, ok_nat ha, ok_nat hb]; show some _ = _; rw [cut_nat_nat]
theorem sl_0n_bytes {l : List Nat} {b : Nat} {j : Int} (hj : j = (b : Int)) (hb : b ≤ 100000) : slice (.sc (.bytes l)) none (some j) = some (.sc (.bytes (l.take b))) := by
  subst hj; rw [slice, ok_nat hb]; show some _ = _; rw [cut_none_nat]
theorem sl_n0_bytes {l : List Nat} {a : Nat} {i : Int} (hi : i = (a : Int)) (ha : a ≤ 100000) : slice (.sc (.bytes l)) (some i) none = some (.sc (.bytes (l.drop a))) := by
  subst hi; rw [slice, ok_nat ha]; show some _ = _; rw [cut_nat_none]
theorem sl_neg_bytes {l : List Nat} {k : Nat} {i : Int} (hi : i = -(k : Int)) (h : 0 < k) (hk : k ≤ 100000) : slice (.sc (.bytes l)) (some i) none = some (.sc (.bytes (l.drop (l.length - k)))) := by
  subst hi; have : okPart (some (-(k : Int))) = true := by unfold okPart; simp; omega
  rw [slice, this]; show some _ = _; rw [cut_neg_none _ _ h]
theorem sl_nn_lst {l : List Sc} {a b : Nat} {i j : Int} (hi : i = (a : Int)) (hj : j = (b : Int)) (ha : a ≤ 100000) (hb : b ≤ 100000) : slice (.lst l) (some i) (some j) = some (.lst ((l.drop a).take (b - a))) := by
  subst hi; subst hj; rw [slice, ok_nat ha, ok_nat hb]; show some _ = _; rw [cut_nat_nat]

theorem range_up (a b : Nat) : rangeL (a : Int) (b : Int) 1 = (List.range (b - a)).map fun (i : Nat) => .int (((a + i : Nat)) : Int) := by
  unfold rangeL PySem.Builtin.Range.rangeSize
  have e : (if (1 : Int) > 0 then if (a : Int) < (b : Int) then ((b : Int) - a - 1) / 1 + 1 else 0 else if (a : Int) > (b : Int) then ((a : Int) - b - 1) / (-1) + 1 else 0).toNat = b - a := by
    rw [if_pos (by decide)]; split <;> omega
  rw [e]
  apply List.map_congr_left
  intro i _
  simp
theorem small_nat {k : Nat} (h : k ≤ 100000) : smallI (k : Int) = true := by
  unfold smallI; simp; omega
theorem items_up {a b : Nat} {i j : Int} (hi : i = (a : Int)) (hj : j = (b : Int)) (ha : a ≤ 100000) (hb : b ≤ 100000) : items (.rng i j 1) = some ((List.range (b - a)).map fun (i : Nat) => .int (((a + i : Nat)) : Int)) := by
  subst hi; subst hj
  show (if smallI a ∧ smallI b ∧ smallI 1 ∧ (1 : Int) ≠ 0 then some (rangeL a b 1) else none) = _
  rw [if_pos ⟨small_nat ha, small_nat hb, by decide⟩, range_up]
theorem items_bytes (l : List Nat) : items (.sc (.bytes l)) = some (l.map fun (c : Nat) => .int c) := rfl
theorem items_str (l : List Nat) : items (.sc (.str l)) = some (l.map fun (c : Nat) => .str [c]) := rfl
theorem items_lst (l : List Sc) : items (.lst l) = some l := rfl
theorem items_rng (a b c : Int) : items (.rng a b c) = if smallI a ∧ smallI b ∧ smallI c ∧ c ≠ 0 then some (rangeL a b c) else none := rfl
theorem pvIn_di (i : Int) (d : List (Int × Sc)) : pvIn (.sc (.int i)) (.dctI d) = some (d.lookup i).isSome := rfl
theorem ix_di (i : Int) (d : List (Int × Sc)) : index (.dctI d) (.sc (.int i)) = (d.lookup i).map .sc := rfl
theorem sl_lst (l : List Sc) {i j : Option Int} (h : (okPart i && okPart j) = true) : slice (.lst l) i j = some (.lst (cutL l i j)) := by rw [slice, h]; rfl
theorem mkS_ok {l : List Nat} (h : l.length ≤ 65536) : mkS l = some (.sc (.str l)) := by unfold mkS; rw [if_pos (by rw [lim_val]; exact h)]
theorem mkB_ok {l : List Nat} (h : l.length ≤ 65536) : mkB l = some (.sc (.bytes l)) := by unfold mkB; rw [if_pos (by rw [lim_val]; exact h)]
theorem mkL_ok {l : List Sc} (h : l.length ≤ 65536) : mkL l = some (.lst l) := by unfold mkL; rw [if_pos (by rw [lim_val]; exact h)]
theorem mkLT_ok {l : List (List Sc)} (h : l.length ≤ 65536) : mkLT l = some (.lstT l) := by unfold mkLT; rw [if_pos (by rw [lim_val]; exact h)]

end Mine

end
section
set_option Elab.async false
set_option autoImplicit false
set_option maxRecDepth 4000
set_option linter.unusedSimpArgs false
set_option linter.unusedVariables false
namespace Mine

theorem drop_cons {α : Type} {l : List α} {k : Nat} {c : α} {r : List α} (h : l.drop k = c :: r) : l[k]? = some c ∧ l.drop (k + 1) = r ∧ k < l.length := by
  have h1 : k < l.length := by
    apply Classical.byContradiction
    intro q
    rw [List.drop_of_length_le (by omega)] at h; cases h
  refine ⟨?_, ?_, h1⟩
  · have := congrArg (·[0]?) h
    simpa [List.getElem?_drop] using this
  · rw [← List.drop_drop, h]; rfl
theorem drop_nil {α : Type} {l : List α} {k : Nat} (h : l.drop k = []) (hk : k ≤ l.length) : k = l.length := by
  have := congrArg List.length h
  simp at this; omega
theorem drop_app {α : Type} {l : List α} {k : Nat} {p r : List α} (h : l.drop k = p ++ r) : l.drop (k + p.length) = r := by
  rw [← List.drop_drop, h, List.drop_left]

noncomputable def isWS (c : Nat) : Bool := decide (33 ≤ c) && (decide (c ≤ 126) && !(c == 63))
theorem run_ws (n : Nat) (c : Nat) : FF (n + 1) 40 [.sc (.int (c : Int))] = some (.sc (.bool (isWS c))) := by
  rw [r_is_word_sign]
  have e1 : (33 ≤ (c : Int)) = (33 ≤ c) := by apply propext; omega
  have e2 : ((c : Int) ≤ 126) = (c ≤ 126) := by apply propext; omega
  have e3 : ((c : Int) == 63) = (c == 63) := by rw [Bool.eq_iff_iff]; simp; omega
  unfold isWS
  by_cases h1 : 33 ≤ c
  · by_cases h2 : c ≤ 126
    · rw [decide_eq_true h1, decide_eq_true h2]
      exact vcF [(0, ft' (e1.trans (eq_true h1))), (0, ft' (e2.trans (eq_true h2))), (0, fn e3)] (by kernel_rfl)
    · rw [decide_eq_true h1, decide_eq_false h2]
      exact vcF [(0, ft' (e1.trans (eq_true h1))), (0, ff' (e2.trans (eq_false h2)))] (by kernel_rfl)
  · rw [decide_eq_false h1]
    exact vcF [(0, ff' (e1.trans (eq_false h1)))] (by kernel_rfl)

theorem loop_part_end (n : Nat) (l : List Nat) (at0 : Slot) (hl : l.length ≤ 60000) : ∀ (p post : List Nat) (k fuel : Nat), l.drop k = p ++ 63 :: post → (∀ c ∈ p, isWS c = true) → p.length < fuel →
    whileGo (fun ρ => tst (FF (n + 1)) Gl ρ t0_part_end) (fun ρ => execs (FF (n + 1)) Gl 1000 ρ l0_part_end) fuel [.val (.sc (.bytes l)), at0, .val (.sc (.int (k : Int)))] =
      some ([.val (.sc (.bytes l)), at0, .val (.sc (.int ((k + p.length : Nat) : Int)))], .next) := by
  intro p
  induction p with
  | nil =>
    intro post k fuel h ha hf
    obtain ⟨h1, h2, h3⟩ := drop_cons (c := 63) h
    rcases fuel with _ | fuel
    ·
      omega
    ·
      have e1 : ((k : Int) < (l.length : Int)) = True := eq_true (by omega)
      have e2 := idx_bytes (i := (k : Int)) h1 (by omega) rfl
      have e3 : FF (n + 1) 40 [.sc (.int ((63 : Nat) : Int))] = some (.sc (.bool false)) := run_ws n 63
      exact w_end (by exact vcT [(1, ft' e1), (0, fp e2), (0, fp e3)] (by kernel_rfl))
  | cons c p ih =>
    intro post k fuel h ha hf
    obtain ⟨h1, h2, h3⟩ := drop_cons (c := c) (r := p ++ 63 :: post) h
    rcases fuel with _ | fuel
    ·
      omega
    ·
      have e1 : ((k : Int) < (l.length : Int)) = True := eq_true (by omega)
      have e2 := idx_bytes (i := (k : Int)) h1 (by omega) rfl
      have e3 : FF (n + 1) 40 [.sc (.int (c : Int))] = some (.sc (.bool true)) := by rw [run_ws, ha c List.mem_cons_self]
      have i := ih post (k + 1) fuel h2 (fun d hd => ha d (List.mem_cons_of_mem _ hd)) (by simp at hf; omega)
      rw [show k + 1 + p.length = k + (c :: p).length by simp; omega] at i
      have t : tst (FF (n + 1)) Gl [.val (.sc (.bytes l)), at0, .val (.sc (.int (k : Int)))] t0_part_end = some true := by
        exact vcT [(1, ft' e1), (0, fp e2), (0, fp e3)] (by kernel_rfl)
      have b : execs (FF (n + 1)) Gl 1000 [.val (.sc (.bytes l)), at0, .val (.sc (.int (k : Int)))] l0_part_end = some ([.val (.sc (.bytes l)), at0, .val (.sc (.int ((k + 1 : Nat) : Int)))], .next) := by
        exact vcS [] (by kernel_rfl)
      exact w_next t b i

theorem run_part_end (n : Nat) {l p post : List Nat} {k : Nat} {i : Int} (hi : i = (k : Int)) (h : l.drop k = p ++ 63 :: post) (ha : ∀ c ∈ p, isWS c = true) (hp : p.length < 900) (hl : l.length ≤ 60000) :
    FF (n + 2) 41 [.sc (.bytes l), .sc (.int i)] = some (.sc (.int ((k + p.length : Nat) : Int))) := by
  subst hi
  rw [r_part_end]
  have e := loop_part_end n l (.val (.sc (.int (k : Int)))) hl p post k 1000 h ha (by omega)
  obtain ⟨h1, h2, h3⟩ := drop_cons (drop_app h)
  have e1 : (((k + p.length : Nat) : Int) < (l.length : Int)) = True := eq_true (by omega)
  have e2 := idx_bytes (i := ((k + p.length : Nat) : Int)) h1 (by omega) rfl
  exact vcF [(0, fs e), (1, ft' e1), (0, fp e2)] (by kernel_rfl)
end Mine

end
section
set_option Elab.async false
set_option autoImplicit false
set_option maxRecDepth 4000
set_option linter.unusedSimpArgs false
set_option linter.unusedVariables false
namespace Mine
/-- the signs that the law draws -/
noncomputable def signA : List Nat := [97, 98, 99, 45, 100, 46, 233, 116, 120, 61, 63, 121, 9, 117, 8364, 32]
/-- the octets that they are told by -/
noncomputable def octB : List Nat := [97, 98, 99, 45, 100, 46, 116, 120, 61, 63, 121, 9, 117, 32, 233, 195, 169, 226, 130, 172]
inductive Cs where
  | a | l | u
noncomputable def Cs.n : Cs → List Nat
  | .a => asciiL | .l => latinL | .u => utf8L
noncomputable def Cs.has : Cs → Nat → Bool
  | .a, c => decide (c < 128)
  | .l, c => decide (c < 256)
  | .u, _ => true
noncomputable def utf (c : Nat) : List Nat := if c = 233 then [195, 169] else if c = 8364 then [226, 130, 172] else [c]
noncomputable def oct : Cs → Nat → List Nat
  | .u, c => utf c
  | _, c => [c]
noncomputable abbrev okT (t : List Nat) : Prop := ∀ c ∈ t, c ∈ signA
noncomputable abbrev hasT (k : Cs) (t : List Nat) : Prop := ∀ c ∈ t, k.has c = true
theorem run_has (n : Nat) (k : Cs) : ∀ c ∈ signA, FF (n + 2) 5 [.sc (.str k.n), .sc (.int (c : Int))] = some (.sc (.bool (k.has c))) := by
  intro c hc
  simp only [signA, List.mem_cons, List.not_mem_nil, or_false] at hc
  cases k <;> rcases hc with rfl | rfl | rfl | rfl | rfl | rfl | rfl | rfl | rfl | rfl | rfl | rfl | rfl | rfl | rfl | rfl <;> kernel_rfl
theorem run_u8 (n : Nat) : ∀ c ∈ signA, FF (n + 2) 3 [.sc (.int (c : Int))] = some (.lst ((utf c).map fun (x : Nat) => .int x)) := by
  intro c hc
  simp only [signA, List.mem_cons, List.not_mem_nil, or_false] at hc
  rcases hc with rfl | rfl | rfl | rfl | rfl | rfl | rfl | rfl | rfl | rfl | rfl | rfl | rfl | rfl | rfl | rfl <;> kernel_rfl
theorem run_need (n : Nat) (k : Cs) : FF (n + 1) 4 [.sc (.str k.n)] = some (.sc .none) := by cases k <;> kernel_rfl
theorem oct_B (k : Cs) : ∀ c ∈ signA, k.has c = true → ∀ x ∈ oct k c, x ∈ octB := by
  have : ∀ c ∈ signA, (∀ x ∈ oct .u c, x ∈ octB) ∧ (Cs.has .l c = true → ∀ x ∈ oct .l c, x ∈ octB) ∧ (Cs.has .a c = true → ∀ x ∈ oct .a c, x ∈ octB) := by decide +kernel
  intro c hc hk x hx
  induction k with
  | a => exact (this c hc).2.2 hk x hx
  | l => exact (this c hc).2.1 hk x hx
  | u => exact (this c hc).1 x hx
theorem oct_len (k : Cs) (c : Nat) : (oct k c).length ≤ 3 := by
  cases k <;> simp [oct, utf]
  split
  · simp
  · split <;> simp
theorem B_lt : ∀ x ∈ octB, x < 256 := by decide +kernel
theorem toB_ok : ∀ {l : List Nat}, (∀ x ∈ l, x < 256) → toBytes (l.map fun (x : Nat) => Sc.int x) = some l
  | [], _ => rfl
  | x :: r, h => by
    have := h x List.mem_cons_self
    simp only [List.map_cons, toBytes, toB_ok (l := r) fun y hy => h y (List.mem_cons_of_mem _ hy), Option.map_some]
    rw [if_pos (by omega)]
    rfl
theorem flat_len (k : Cs) : ∀ t : List Nat, (t.flatMap (oct k)).length ≤ 3 * t.length
  | [] => by simp
  | c :: r => by
    have := flat_len k r; have := oct_len k c
    rw [List.flatMap_cons, List.length_append, List.length_cons]; omega

theorem eq_u8 (k : Cs) : (k.n == utf8L) = (match k with | .u => true | _ => false) := by cases k <;> decide
theorem items_r0 {b : Nat} (hb : b ≤ 100000) : items (.rng 0 (b : Int) 1) = some ((List.range' 0 b).map fun (j : Nat) => .int (j : Int)) := by
  have := items_up (a := 0) (b := b) (i := 0) (j := (b : Int)) rfl rfl (by omega) hb
  rw [this, List.range_eq_range']
  simp
theorem loop_octets_in (n : Nat) (k : Cs) (t : List Nat) (ht : okT t) (hk : hasT k t) (hl : t.length ≤ 10000) : ∀ (r : List Nat) (i : Nat) (acc : List Nat) (s3 s4 : Slot), t.drop i = r → acc.length ≤ 3 * i →
    ∃ s3' s4', forGo (fun ρ => execs (FF (n + 2)) Gl 1000 ρ l0_octets_in) 3 ((List.range' i r.length).map fun (j : Nat) => .int (j : Int)) [.val (.sc (.str k.n)), .val (.sc (.str t)), .own (.lst (acc.map fun (x : Nat) => .int x)), s3, s4] =
      some ([.val (.sc (.str k.n)), .val (.sc (.str t)), .own (.lst ((acc ++ r.flatMap (oct k)).map fun (x : Nat) => .int x)), s3', s4'], .next) := by
  intro r
  induction r with
  | nil => intro i acc s3 s4 _ _; exact ⟨s3, s4, by simp [forGo]⟩
  | cons c r ih =>
    intro i acc s3 s4 h hacc
    obtain ⟨h1, h2, h3⟩ := drop_cons h
    have hc : c ∈ t := List.mem_of_getElem? h1
    obtain ⟨s3', s4', e⟩ := ih (i + 1) (acc ++ oct k c) (.val (.sc (.int (i : Int)))) (.val (.sc (.int (c : Int)))) h2 (by have := oct_len k c; rw [List.length_append]; omega)
    refine ⟨s3', s4', ?_⟩
    rw [List.length_cons, List.range'_succ, List.map_cons]
    have e1 := idx_str (i := (i : Int)) h1 (by omega) rfl
    have e2 := run_has n k c (ht c hc)
    rw [hk c hc] at e2
    have e3 := run_u8 n c (ht c hc)
    have e4 := eq_u8 k
    have e5 : mkL ((acc ++ oct k c).map fun (x : Nat) => Sc.int x) = some (.lst ((acc ++ oct k c).map fun (x : Nat) => Sc.int x)) := mkL_ok (by have := oct_len k c; rw [List.length_map, List.length_append]; omega)
    have b : execs (FF (n + 2)) Gl 1000 [.val (.sc (.str k.n)), .val (.sc (.str t)), .own (.lst (acc.map fun (x : Nat) => .int x)), .val (.sc (.int (i : Int))), s4] l0_octets_in =
        some ([.val (.sc (.str k.n)), .val (.sc (.str t)), .own (.lst ((acc ++ oct k c).map fun (x : Nat) => .int x)), .val (.sc (.int (i : Int))), .val (.sc (.int (c : Int)))], .next) := by
      induction k with
      | u =>
        rw [List.map_append] at e5 ⊢
        have e6 : (oct .u c) = utf c := rfl
        rw [e6] at e5 ⊢
        exact vcS [(0, fp e1), (1, fp e2), (0, fq e4), (0, fp e3), (0, fp e5)] (by kernel_rfl)
      | a =>
        rw [List.map_append] at e5 ⊢
        have e6 : (List.map (fun (x : Nat) => Sc.int x) (oct .a c)) = [Sc.int c] := rfl
        rw [e6] at e5 ⊢
        exact vcS [(0, fp e1), (1, fp e2), (0, fq e4), (0, fp e5)] (by kernel_rfl)
      | l =>
        rw [List.map_append] at e5 ⊢
        have e6 : (List.map (fun (x : Nat) => Sc.int x) (oct .l c)) = [Sc.int c] := rfl
        rw [e6] at e5 ⊢
        exact vcS [(0, fp e1), (1, fp e2), (0, fq e4), (0, fp e5)] (by kernel_rfl)
    rw [List.flatMap_cons, ← List.append_assoc]
    exact f_next b e
theorem run_octets_in (n : Nat) (k : Cs) {t : List Nat} (ht : okT t) (hk : hasT k t) (hl : t.length ≤ 10000) : FF (n + 3) 6 [.sc (.str k.n), .sc (.str t)] = some (.sc (.bytes (t.flatMap (oct k)))) := by
  rw [r_octets_in]
  have e1 := run_need (n + 1) k
  obtain ⟨s3', s4', e2⟩ := loop_octets_in n k t ht hk hl t 0 [] .un .un rfl (by simp)
  have e3 : items (.rng 0 (t.length : Int) 1) = some ((List.range' 0 t.length).map fun (j : Nat) => .int (j : Int)) := by
    exact items_r0 (by omega)
  have e4 := small_nat (k := t.length) (by omega)
  have e5 : toBytes ((t.flatMap (oct k)).map fun (x : Nat) => Sc.int x) = some (t.flatMap (oct k)) := toB_ok fun x hx => by
    obtain ⟨c, hc, hx⟩ := List.mem_flatMap.mp hx
    exact B_lt x (oct_B k c (ht c hc) (hk c hc) x hx)
  simp only [List.map_nil, List.nil_append] at e2
  exact vcF [(0, fp e1), (1, fsm e4), (0, fl e3), (0, fs e2), (0, fby e5)] (by kernel_rfl)
end Mine

end
section
set_option Elab.async false
set_option autoImplicit false
set_option maxRecDepth 4000
set_option linter.unusedSimpArgs false
set_option linter.unusedVariables false
namespace Mine
noncomputable def hx (c : Nat) : List Nat := [61, hexL.getD (c / 16) 0, hexL.getD (c % 16) 0]
noncomputable def qe (c : Nat) : List Nat := if c = 32 then [95] else if wordSignsL.contains c then [c] else hx c
theorem run_qc (n : Nat) : ∀ c ∈ octB, FF (n + 1) 8 [.sc (.int (c : Int))] = some (.sc (.bytes (hx c))) := by
  intro c hc
  simp only [octB, List.mem_cons, List.not_mem_nil, or_false] at hc
  rcases hc with rfl | rfl | rfl | rfl | rfl | rfl | rfl | rfl | rfl | rfl | rfl | rfl | rfl | rfl | rfl | rfl | rfl | rfl | rfl | rfl <;> kernel_rfl
theorem qe_len (c : Nat) : (qe c).length ≤ 3 := by
  unfold qe
  split
  · simp
  · split <;> simp [hx]
theorem toByts_ok : ∀ l : List (List Nat), toByts (l.map Sc.bytes) = some l
  | [] => rfl
  | x :: r => by simp only [List.map_cons, toByts, toByts_ok r, Option.map_some]
theorem toStrs_ok : ∀ l : List (List Nat), toStrs (l.map Sc.str) = some l
  | [] => rfl
  | x :: r => by simp only [List.map_cons, toStrs, toStrs_ok r, Option.map_some]
theorem joinL_nil : ∀ l : List (List Nat), joinL [] l = l.flatten
  | [] => rfl
  | x :: r => by rw [joinL_eq]; simp
theorem int_beq (a b : Nat) : ((a : Int) == (b : Int)) = (a == b) := by rw [Bool.eq_iff_iff]; simp; omega
theorem int_eq32 (a : Nat) : ((a : Int) == 32) = (a == 32) := int_beq a 32
theorem pvIn_bytes {c : Nat} (hc : c < 256) (l : List Nat) : pvIn (.sc (.int (c : Int))) (.sc (.bytes l)) = some (l.contains c) := by
  show (if 0 ≤ (c : Int) ∧ (c : Int) < 256 then some (l.contains c) else none) = _
  rw [if_pos (by omega)]
theorem loop_qenc (n : Nat) (s0 : Slot) : ∀ (l : List Nat) (acc : List (List Nat)) (s2 : Slot), (∀ c ∈ l, c ∈ octB) → acc.length + l.length ≤ 60000 →
    ∃ s2', forGo (fun ρ => execs (FF (n + 1)) Gl 1000 ρ l0_word_q_encoded) 2 (l.map fun (x : Nat) => .int x) [s0, .own (.lst (acc.map .bytes)), s2] =
      some ([s0, .own (.lst ((acc ++ l.map qe).map .bytes)), s2'], .next) := by
  intro l
  induction l with
  | nil => intro acc s2 _ _; exact ⟨s2, by simp [forGo]⟩
  | cons c r ih =>
    intro acc s2 hl hn
    have hc := hl c List.mem_cons_self
    simp only [List.length_cons] at hn
    obtain ⟨s2', e⟩ := ih (acc ++ [qe c]) (.val (.sc (.int (c : Int)))) (fun d hd => hl d (List.mem_cons_of_mem _ hd)) (by simp; omega)
    refine ⟨s2', ?_⟩
    have b : execs (FF (n + 1)) Gl 1000 [s0, .own (.lst (acc.map .bytes)), .val (.sc (.int (c : Int)))] l0_word_q_encoded =
        some ([s0, .own (.lst ((acc ++ [qe c]).map .bytes)), .val (.sc (.int (c : Int)))], .next) := by
      have e1 := int_eq32 c
      have e2 := pvIn_bytes (B_lt c hc) wordSignsL
      have e3 := run_qc n c hc
      have e4 : ∀ x : List Nat, mkL (acc.map Sc.bytes ++ [Sc.bytes x]) = some (.lst (acc.map Sc.bytes ++ [Sc.bytes x])) := fun x => mkL_ok (by simp; omega)
      have e5 : toBytes [.int (c : Int)] = some [c] := toB_ok (l := [c]) (by simpa using B_lt c hc)
      have e6 : toBytes [.int (95 : Int)] = some [95] := toB_ok (l := [95]) (by simp)
      rw [List.map_append]
      by_cases h1 : c = 32
      · have e7 : qe c = [95] := by unfold qe; rw [if_pos h1]
        have e8 : (c == 32) = true := by simpa using h1
        rw [e7]
        exact vcS [(0, fq (e1.trans e8)), (0, fby e6), (0, fp (e4 [95]))] (by kernel_rfl)
      · have e8 : (c == 32) = false := by simpa using h1
        cases h2 : wordSignsL.contains c with
        | true =>
          have e7 : qe c = [c] := by unfold qe; rw [if_neg h1, if_pos h2]
          rw [e7]
          exact vcS [(0, fq (e1.trans e8)), (0, fb (e2.trans (congrArg some h2))), (0, fby e5), (0, fp (e4 [c]))] (by kernel_rfl)
        | false =>
          have e7 : qe c = hx c := by unfold qe; rw [if_neg h1, if_neg (by rw [h2]; decide)]
          rw [e7]
          exact vcS [(0, fq (e1.trans e8)), (0, fb (e2.trans (congrArg some h2))), (0, fp e3), (0, fp (e4 (hx c)))] (by kernel_rfl)
    rw [List.append_assoc] at e
    exact f_next b e
theorem flat_qe_len : ∀ l : List Nat, (l.flatMap qe).length ≤ 3 * l.length
  | [] => by simp
  | c :: r => by
    have := flat_qe_len r; have := qe_len c
    rw [List.flatMap_cons, List.length_append, List.length_cons]; omega
theorem run_qenc (n : Nat) {l : List Nat} (hl : ∀ c ∈ l, c ∈ octB) (hn : l.length ≤ 20000) : FF (n + 2) 9 [.sc (.bytes l)] = some (.sc (.bytes (l.flatMap qe))) := by
  rw [r_word_q_encoded]
  obtain ⟨s2', e1⟩ := loop_qenc n (.val (.sc (.bytes l))) l [] .un hl (by simp; omega)
  have e2 := toByts_ok (l.map qe)
  have e3 : mkB (l.flatMap qe) = some (.sc (.bytes (l.flatMap qe))) := mkB_ok (by have := flat_qe_len l; omega)
  have e4 : joinL [] (l.map qe) = l.flatMap qe := by rw [joinL_nil]; rfl
  simp only [List.map_nil, List.nil_append] at e1
  exact vcF [(1, fs e1), (0, fp (jb_ok e2 (by rw [e4]; exact e3)))] (by kernel_rfl)
end Mine

end
section
set_option Elab.async false
set_option autoImplicit false
set_option maxRecDepth 4000
set_option linter.unusedSimpArgs false
set_option linter.unusedVariables false
namespace Mine
noncomputable def und (c : Nat) : Nat := if c = 95 then 32 else c
noncomputable def qd (c : Nat) : List Nat := (qe c).map und
theorem run_hexw (n : Nat) : ∀ c ∈ octB, FF (n + 1) 27 [.sc (.int ((hexL.getD (c / 16) 0 : Nat) : Int))] = some (.sc (.int ((c / 16 : Nat) : Int))) ∧ FF (n + 1) 27 [.sc (.int ((hexL.getD (c % 16) 0 : Nat) : Int))] = some (.sc (.int ((c % 16 : Nat) : Int))) := by
  intro c hc
  simp only [octB, List.mem_cons, List.not_mem_nil, or_false] at hc
  rcases hc with rfl | rfl | rfl | rfl | rfl | rfl | rfl | rfl | rfl | rfl | rfl | rfl | rfl | rfl | rfl | rfl | rfl | rfl | rfl | rfl <;> constructor <;> kernel_rfl
theorem qd_two : ∀ c ∈ octB, (qd c = [c] ∧ c ≠ 61) ∨ qd c = hx c := by decide +kernel
theorem run_quoted_at (n : Nat) {l post : List Nat} {k c : Nat} (hc : c ∈ octB) (h : l.drop k = hx c ++ post) (hl : l.length ≤ 60000) :
    FF (n + 2) 28 [.sc (.bytes l), .sc (.int (k : Int))] = some (.sc (.int (c : Int))) := by
  rw [r_quoted_at]
  unfold hx at h
  obtain ⟨h1, h2, h3⟩ := drop_cons h
  obtain ⟨g1, g2, g3⟩ := drop_cons h2
  obtain ⟨k1, k2, k3⟩ := drop_cons g2
  have e1 : ((l.length : Int) ≤ ((k + 2 : Nat) : Int)) = False := eq_false (by omega)
  have e2 := idx_bytes (i := ((k + 1 : Nat) : Int)) g1 (by omega) rfl
  have e3 := idx_bytes (i := ((k + 2 : Nat) : Int)) k1 (by omega) rfl
  obtain ⟨e4, e5⟩ := run_hexw n c hc
  have hlt := B_lt c hc
  have e6 : ((0 : Int) ≤ ((c / 16 : Nat) : Int)) = True := eq_true (by omega)
  have e7 : ((0 : Int) ≤ ((c % 16 : Nat) : Int)) = True := eq_true (by omega)
  have e8 := iop_mul 16 (c / 16) (by omega)
  have e9 : (16 : Int) * ((c / 16 : Nat) : Int) + ((c % 16 : Nat) : Int) = (c : Int) := by omega
  exact vcF [(2, ff' e1), (1, fp e2), (0, fp e4), (1, fp e3), (0, fp e5), (0, ft' e6), (0, ft' e7), (0, fo e8), (0, fi e9)] (by kernel_rfl)
theorem loop_unquoted (n : Nat) (l : List Nat) (hl : l.length ≤ 60000) : ∀ (r : List Nat) (k : Nat) (acc : List Nat) (s3 : Slot) (fuel : Nat), l.drop k = r.flatMap qd → (∀ c ∈ r, c ∈ octB) → acc.length + r.length ≤ 60000 → r.length < fuel → k ≤ l.length →
    ∃ k' s3', whileGo (fun ρ => tst (FF (n + 2)) Gl ρ t0_unquoted) (fun ρ => execs (FF (n + 2)) Gl 1000 ρ l0_unquoted) fuel [.val (.sc (.bytes l)), .own (.lst (acc.map fun (x : Nat) => .int x)), .val (.sc (.int (k : Int))), s3] =
      some ([.val (.sc (.bytes l)), .own (.lst ((acc ++ r).map fun (x : Nat) => .int x)), k', s3'], .next) := by
  intro r
  induction r with
  | nil =>
    intro k acc s3 fuel h _ _ hf hk
    have hk := drop_nil h hk
    subst hk
    rcases fuel with _ | fuel
    ·
      omega
    ·
      refine ⟨.val (.sc (.int (l.length : Int))), s3, ?_⟩
      have e1 : ((l.length : Int) < (l.length : Int)) = False := eq_false (by omega)
      rw [List.append_nil]
      exact w_end (by exact vcT [(1, ff' e1)] (by kernel_rfl))
  | cons c r ih =>
    intro k acc s3 fuel h hr hn hf hk
    have hc := hr c List.mem_cons_self
    simp only [List.length_cons] at hn hf
    rcases fuel with _ | fuel
    ·
      omega
    ·
      rw [List.flatMap_cons] at h
      have e4 : mkL (acc.map (fun (x : Nat) => Sc.int x) ++ [.int (c : Int)]) = some (.lst (acc.map (fun (x : Nat) => Sc.int x) ++ [.int (c : Int)])) := mkL_ok (by simp; omega)
      have acc1 : acc.map (fun (x : Nat) => Sc.int x) ++ [.int (c : Int)] = (acc ++ [c]).map (fun (x : Nat) => Sc.int x) := by simp
      have e7 : ((0 : Int) ≤ (c : Int)) = True := eq_true (by omega)
      rcases qd_two c hc with ⟨hq, h61⟩ | hq
      · rw [hq] at h
        obtain ⟨h1, h2, h3⟩ := drop_cons h
        obtain ⟨k', s3', e⟩ := ih (k + 1) (acc ++ [c]) (.val (.sc (.int (-1)))) fuel h2 (fun d hd => hr d (List.mem_cons_of_mem _ hd)) (by simp; omega) (by omega) (by omega)
        refine ⟨k', s3', ?_⟩
        have e1 : ((k : Int) < (l.length : Int)) = True := eq_true (by omega)
        have e2 := idx_bytes (i := (k : Int)) h1 (by omega) rfl
        have e3 : ((c : Int) == 61) = false := by rw [show ((c : Int) == 61) = (c == 61) from int_beq c 61]; simpa using h61
        have e5 : ((0 : Int) ≤ -1) = False := eq_false (by omega)
        have b : execs (FF (n + 2)) Gl 1000 [.val (.sc (.bytes l)), .own (.lst (acc.map fun (x : Nat) => .int x)), .val (.sc (.int (k : Int))), s3] l0_unquoted =
            some ([.val (.sc (.bytes l)), .own (.lst ((acc ++ [c]).map fun (x : Nat) => .int x)), .val (.sc (.int ((k + 1 : Nat) : Int))), .val (.sc (.int (-1)))], .next) := by
          rw [← acc1]
          exact vcS [(0, fp e2), (0, fq e3), (0, ff' e5), (0, fp e2), (0, fp e4)] (by kernel_rfl)
        have t : tst (FF (n + 2)) Gl [.val (.sc (.bytes l)), .own (.lst (acc.map fun (x : Nat) => .int x)), .val (.sc (.int (k : Int))), s3] t0_unquoted = some true := by
          exact vcT [(1, ft' e1)] (by kernel_rfl)
        rw [List.append_assoc] at e
        exact w_next t b e
      · rw [hq] at h
        obtain ⟨h1, h2, h3⟩ := drop_cons (c := 61) (show l.drop k = 61 :: _ from h)
        have hd := drop_app h
        have hd3 : (hx c).length = 3 := rfl
        rw [hd3] at hd
        obtain ⟨k', s3', e⟩ := ih (k + 3) (acc ++ [c]) (.val (.sc (.int (c : Int)))) fuel hd (fun d hd => hr d (List.mem_cons_of_mem _ hd)) (by simp; omega) (by omega) (by
          have := congrArg List.length h
          simp [hx] at this
          omega)
        refine ⟨k', s3', ?_⟩
        have e1 : ((k : Int) < (l.length : Int)) = True := eq_true (by omega)
        have e2 := idx_bytes (i := (k : Int)) h1 (by omega) rfl
        have e3 : (((61 : Nat) : Int) == 61) = true := rfl
        have e5 := run_quoted_at n hc h hl
        have b : execs (FF (n + 2)) Gl 1000 [.val (.sc (.bytes l)), .own (.lst (acc.map fun (x : Nat) => .int x)), .val (.sc (.int (k : Int))), s3] l0_unquoted =
            some ([.val (.sc (.bytes l)), .own (.lst ((acc ++ [c]).map fun (x : Nat) => .int x)), .val (.sc (.int ((k + 3 : Nat) : Int))), .val (.sc (.int (c : Int)))], .next) := by
          rw [← acc1]
          exact vcS [(0, fp e2), (0, fq e3), (0, fp e5), (0, ft' e7), (0, fp e4)] (by kernel_rfl)
        have t : tst (FF (n + 2)) Gl [.val (.sc (.bytes l)), .own (.lst (acc.map fun (x : Nat) => .int x)), .val (.sc (.int (k : Int))), s3] t0_unquoted = some true := by
          exact vcT [(1, ft' e1)] (by kernel_rfl)
        rw [List.append_assoc] at e
        exact w_next t b e
theorem run_unquoted (n : Nat) {r : List Nat} (hr : ∀ c ∈ r, c ∈ octB) (hn : r.length < 900) : FF (n + 3) 29 [.sc (.bytes (r.flatMap qd))] = some (.sc (.bytes r)) := by
  rw [r_unquoted]
  have hlen : (r.flatMap qd).length ≤ 3 * r.length := by
    have := flat_qe_len r
    have e : r.flatMap qd = (r.flatMap qe).map und := by simp [List.map_flatMap]; rfl
    rw [e, List.length_map]; exact this
  obtain ⟨k', s3', e1⟩ := loop_unquoted n (r.flatMap qd) (by omega) r 0 [] .un 1000 rfl hr (by simp; omega) (by omega) (by omega)
  have e2 : toBytes (r.map fun (x : Nat) => Sc.int x) = some r := toB_ok fun x hx => B_lt x (hr x hx)
  simp only [List.map_nil, List.nil_append, Int.natCast_zero] at e1
  exact vcF [(0, fs e1), (0, fby e2)] (by kernel_rfl)
theorem qd_flat (r : List Nat) : r.flatMap qd = (r.flatMap qe).map und := by
  rw [List.map_flatMap]; rfl
theorem comp_und (F : Fns) (s1 : Slot) (l : List Nat) (hl : l.length ≤ 65536) : ev F Gl true [.val (.sc (.bytes l)), s1] c0_word_q_decoded = some (.lst ((l.map und).map fun (x : Nat) => .int x)) := by
  refine cmp_of (p := .sc (.bytes l)) rfl (items_bytes l) (by rw [List.length_map]; exact hl) ?_
  rw [List.map_map]
  refine cmpM (g := fun c => .int (und c : Nat)) fun c hc => ?_
  have h1 : ((c : Int) == 95) = (c == 95) := int_beq c 95
  unfold und
  by_cases h : c = 95
  · subst h; rfl
  · have h2 : (c == 95) = false := by simpa using h
    rw [if_neg h]
    exact vcC [(0, fq (h1.trans h2))] (by kernel_rfl)
theorem run_qdec (n : Nat) {r : List Nat} (hr : ∀ c ∈ r, c ∈ octB) (hn : r.length < 900) : FF (n + 4) 30 [.sc (.bytes (r.flatMap qe))] = some (.sc (.bytes r)) := by
  rw [r_word_q_decoded]
  have hlen := flat_qe_len r
  have e1 := comp_und (FF (n + 3)) .un (r.flatMap qe) (by omega)
  rw [← qd_flat] at e1
  have e2 : toBytes ((r.flatMap qd).map fun (x : Nat) => Sc.int x) = some (r.flatMap qd) := toB_ok fun x hx => by
    obtain ⟨c, hc, hx⟩ := List.mem_flatMap.mp hx
    have : ∀ c ∈ octB, ∀ x ∈ qd c, x < 256 := by decide +kernel
    exact this c (hr c hc) x hx
  have e3 := run_unquoted n hr hn
  exact vcF [(0, fw e1), (0, fby e2), (0, fp e3)] (by kernel_rfl)
end Mine

end
section
set_option Elab.async false
set_option autoImplicit false
set_option maxRecDepth 4000
set_option linter.unusedSimpArgs false
set_option linter.unusedVariables false
namespace Mine
theorem band63 (x : Nat) : iop .band (x : Int) 63 = some ((x % 64 : Nat) : Int) := by
  show some (((x &&& 63 : Nat) : Int)) = _
  rw [show (63 : Nat) = 2 ^ 6 - 1 from rfl, Nat.and_two_pow_sub_one_eq_mod]
theorem band255 (x : Nat) : iop .band (x : Int) 255 = some ((x % 256 : Nat) : Int) := by
  show some (((x &&& 255 : Nat) : Int)) = _
  rw [show (255 : Nat) = 2 ^ 8 - 1 from rfl, Nat.and_two_pow_sub_one_eq_mod]
theorem mul256 (x : Nat) (h : x < 2 ^ 40) : iop .mul 256 (x : Int) = some ((256 * x : Nat) : Int) := by
  simp only [iop]
  rw [if_pos (.inl (by omega (splitDisjunctions := true)))]; rfl
theorem mul64 (x : Nat) (h : x < 2 ^ 40) : iop .mul 64 (x : Int) = some ((64 * x : Nat) : Int) := by
  simp only [iop]
  rw [if_pos (.inl (by omega))]; rfl
theorem shr_nat (x k : Nat) : iop .shr (x : Int) (k : Int) = some ((x / 2 ^ k : Nat) : Int) := by
  simp only [iop]
  rw [if_pos (by omega), Int.fdiv_eq_ediv_of_nonneg _ (by exact_mod_cast Nat.zero_le _)]
  simp
theorem shr18 (x : Nat) : iop .shr (x : Int) 18 = some ((x / 262144 : Nat) : Int) := shr_nat x 18
theorem shr12 (x : Nat) : iop .shr (x : Int) 12 = some ((x / 4096 : Nat) : Int) := shr_nat x 12
theorem shr6 (x : Nat) : iop .shr (x : Int) 6 = some ((x / 64 : Nat) : Int) := shr_nat x 6
theorem shr0 (x : Nat) : iop .shr (x : Int) 0 = some (x : Int) := by rw [show (0 : Int) = ((0 : Nat) : Int) from rfl, shr_nat]; simp
theorem shr2 (x : Nat) : iop .shr (x : Int) 2 = some ((x / 4 : Nat) : Int) := shr_nat x 2
theorem shr4 (x : Nat) : iop .shr (x : Int) 4 = some ((x / 16 : Nat) : Int) := shr_nat x 4
theorem shr8 (x : Nat) : iop .shr (x : Int) 8 = some ((x / 256 : Nat) : Int) := shr_nat x 8
theorem shr16 (x : Nat) : iop .shr (x : Int) 16 = some ((x / 65536 : Nat) : Int) := shr_nat x 16
theorem shl_nat (x k : Nat) (h : x < 2 ^ 40) (hk : k < 100) : iop .shl (x : Int) (k : Int) = some ((x * 2 ^ k : Nat) : Int) := by
  simp only [iop]
  rw [if_pos ⟨by omega, by omega, by omega⟩]
  simp
theorem shl0 (x : Nat) (h : x < 2 ^ 40) : iop .shl (x : Int) 0 = some (x : Int) := by rw [show (0 : Int) = ((0 : Nat) : Int) from rfl, shl_nat x 0 h (by omega)]; simp
theorem shl2 (x : Nat) (h : x < 2 ^ 40) : iop .shl (x : Int) 2 = some ((x * 4 : Nat) : Int) := shl_nat x 2 h (by omega)
theorem shl4 (x : Nat) (h : x < 2 ^ 40) : iop .shl (x : Int) 4 = some ((x * 16 : Nat) : Int) := shl_nat x 4 h (by omega)
noncomputable def c64 (x : Nat) : Nat := signsL.getD (x % 64) 0
theorem idx64 (x : Nat) : index (.sc (.bytes signsL)) (.sc (.int ((x % 64 : Nat) : Int))) = some (.sc (.int ((c64 x : Nat) : Int))) := by
  refine idx_bytes (k := x % 64) ?_ (by decide) rfl
  have hlt : x % 64 < signsL.length := Nat.mod_lt _ (by decide)
  unfold c64
  rw [List.getElem?_eq_getElem hlt, List.getD_eq_getElem?_getD, List.getElem?_eq_getElem hlt]
  rfl
theorem small_lit : smallI 3 = true ∧ smallI 2 = true ∧ smallI 1 = true ∧ smallI 0 = true ∧ smallI (-1) = true := by decide
/-- one group of codes -/
noncomputable def gc3 (a b c : Nat) : List Nat := let t := 256 * (256 * a + b) + c; [c64 (t / 262144), c64 (t / 4096), c64 (t / 64), c64 t]
noncomputable def gc2 (a b : Nat) : List Nat := let t := (256 * a + b) * 4; [c64 (t / 4096), c64 (t / 64), c64 t]
noncomputable def gc1 (a : Nat) : List Nat := let t := a * 16; [c64 (t / 64), c64 t]
noncomputable def nI (l : List Nat) : List Sc := l.map fun (x : Nat) => .int x
theorem run_gc3 (n : Nat) {a b c : Nat} (ha : a < 256) (hb : b < 256) (hc : c < 256) : FF (n + 1) 10 [.sc (.bytes [a, b, c]), .sc (.bytes signsL)] = some (.lst (nI (gc3 a b c))) := by
  rw [r_group_codes]
  have e1 := mul256 a (by omega)
  have e2 := mul256 (256 * a + b) (by omega)
  have e3 := shl0 (256 * (256 * a + b) + c) (by omega)
  exact vcF [(2, fi (Int.zero_add (a : Int))), (0, fo e1), (1, fo e2), (7, fo e3), (4, fo (shr18 (256 * (256 * a + b) + c))), (0, fo (band63 ((256 * (256 * a + b) + c) / 262144))), (0, fp (idx64 ((256 * (256 * a + b) + c) / 262144))), (1, fo (shr12 (256 * (256 * a + b) + c))), (0, fo (band63 ((256 * (256 * a + b) + c) / 4096))), (0, fp (idx64 ((256 * (256 * a + b) + c) / 4096))), (1, fo (shr6 (256 * (256 * a + b) + c))), (0, fo (band63 ((256 * (256 * a + b) + c) / 64))), (0, fp (idx64 ((256 * (256 * a + b) + c) / 64))), (1, fo (shr0 (256 * (256 * a + b) + c))), (0, fo (band63 (256 * (256 * a + b) + c))), (0, fp (idx64 (256 * (256 * a + b) + c)))] (by kernel_rfl)
theorem run_gc2 (n : Nat) {a b : Nat} (ha : a < 256) (hb : b < 256) : FF (n + 1) 10 [.sc (.bytes [a, b]), .sc (.bytes signsL)] = some (.lst (nI (gc2 a b))) := by
  rw [r_group_codes]
  have e1 := mul256 a (by omega)
  have e3 := shl2 (256 * a + b) (by omega)
  exact vcF [(2, fi (Int.zero_add (a : Int))), (0, fo e1), (7, fo e3), (4, fo (shr12 ((256 * a + b) * 4))), (0, fo (band63 ((256 * a + b) * 4 / 4096))), (0, fp (idx64 ((256 * a + b) * 4 / 4096))), (1, fo (shr6 ((256 * a + b) * 4))), (0, fo (band63 ((256 * a + b) * 4 / 64))), (0, fp (idx64 ((256 * a + b) * 4 / 64))), (1, fo (shr0 ((256 * a + b) * 4))), (0, fo (band63 ((256 * a + b) * 4))), (0, fp (idx64 ((256 * a + b) * 4)))] (by kernel_rfl)
theorem run_gc1 (n : Nat) {a : Nat} (ha : a < 256) : FF (n + 1) 10 [.sc (.bytes [a]), .sc (.bytes signsL)] = some (.lst (nI (gc1 a))) := by
  rw [r_group_codes]
  have e3 := shl4 a (by omega)
  exact vcF [(2, fi (Int.zero_add (a : Int))), (6, fo e3), (4, fo (shr6 (a * 16))), (0, fo (band63 (a * 16 / 64))), (0, fp (idx64 (a * 16 / 64))), (1, fo (shr0 (a * 16))), (0, fo (band63 (a * 16))), (0, fp (idx64 (a * 16)))] (by kernel_rfl)
end Mine

end
section
set_option Elab.async false
set_option autoImplicit false
set_option maxRecDepth 4000
set_option linter.unusedSimpArgs false
set_option linter.unusedVariables false
namespace Mine
noncomputable def sgn (i : Nat) : Nat := signsL.getD i 0
noncomputable def gn3 (a b c : Nat) : List Nat := let t := 256 * (256 * a + b) + c; [t / 262144 % 64, t / 4096 % 64, t / 64 % 64, t % 64]
noncomputable def gn2 (a b : Nat) : List Nat := let t := (256 * a + b) * 4; [t / 4096 % 64, t / 64 % 64, t % 64]
noncomputable def gn1 (a : Nat) : List Nat := let t := a * 16; [t / 64 % 64, t % 64]
noncomputable def gns : List Nat → List Nat
  | a :: b :: c :: r => gn3 a b c ++ gns r
  | [a, b] => gn2 a b
  | [a] => gn1 a
  | [] => []
theorem gns_len : ∀ l : List Nat, (gns l).length ≤ 2 * l.length
  | a :: b :: c :: r => by have := gns_len r; simp [gns, gn3]; omega
  | [a, b] => by simp [gns, gn2]
  | [a] => by simp [gns, gn1]
  | [] => by simp [gns]
noncomputable def pad (l : List Nat) : Nat := (3 - l.length % 3) % 3
noncomputable def b64 (l : List Nat) : List Nat := (gns l).map sgn ++ List.replicate (pad l) 61
theorem range_step (b s : Nat) (hs : 0 < s) : rangeL 0 (b : Int) (s : Int) = (List.range' 0 ((b + s - 1) / s)).map fun (i : Nat) => .int ((i * s : Nat) : Int) := by
  unfold rangeL PySem.Builtin.Range.rangeSize
  have e : (if (s : Int) > 0 then if (0 : Int) < (b : Int) then ((b : Int) - 0 - 1) / (s : Int) + 1 else 0 else if (0 : Int) > (b : Int) then ((0 : Int) - b - 1) / (-(s : Int)) + 1 else 0).toNat = (b + s - 1) / s := by
    rw [if_pos (by omega)]
    split
    · rename_i h
      have hb : 0 < b := by omega
      have e1 : ((b : Int) - 0 - 1) = ((b - 1 : Nat) : Int) := by omega
      rw [e1, ← Int.natCast_ediv]
      have e2 : (b + s - 1) = (b - 1) + s := by omega
      rw [e2, Nat.add_div_right _ hs]
      generalize (b - 1) / s = q
      omega
    · have hb : b = 0 := by omega
      subst hb
      rw [Nat.zero_add, Nat.div_eq_of_lt (by omega)]
      rfl
  rw [e, List.range_eq_range']
  apply List.map_congr_left
  intro i _
  simp
theorem items_step {b s : Nat} (hb : b ≤ 100000) (hs : 0 < s) (hs2 : s ≤ 1000) : items (.rng 0 (b : Int) (s : Int)) = some ((List.range' 0 ((b + s - 1) / s)).map fun (i : Nat) => .int ((i * s : Nat) : Int)) := by
  rw [items_rng, if_pos ⟨by decide, small_nat hb, small_nat (k := s) (by omega), by omega⟩, range_step b s hs]
theorem items_3 {b : Nat} (hb : b ≤ 100000) : items (.rng 0 (b : Int) 3) = some ((List.range' 0 ((b + 2) / 3)).map fun (i : Nat) => .int ((i * 3 : Nat) : Int)) := items_step (s := 3) hb (by omega) (by omega)
theorem items_4 {b : Nat} (hb : b ≤ 100000) : items (.rng 0 (b : Int) 4) = some ((List.range' 0 ((b + 3) / 4)).map fun (i : Nat) => .int ((i * 4 : Nat) : Int)) := items_step (s := 4) hb (by omega) (by omega)

theorem turn_part_encoded (n : Nat) {l g : List Nat} {i : Nat} {acc : List Nat} {x : List Nat} {s3 : Slot} (hi : i ≤ 20000) (ha : acc.length + x.length ≤ 60000)
    (hg : (l.drop (i * 3)).take 3 = g) (hx : FF (n + 1) 10 [.sc (.bytes g), .sc (.bytes signsL)] = some (.lst (nI x))) :
    execs (FF (n + 1)) Gl 1000 [.val (.sc (.bytes l)), .val (.sc (.bytes signsL)), .own (.lst (nI acc)), .val (.sc (.int ((i * 3 : Nat) : Int)))] l0_part_encoded =
      some ([.val (.sc (.bytes l)), .val (.sc (.bytes signsL)), .own (.lst (nI (acc ++ x))), .val (.sc (.int ((i * 3 : Nat) : Int)))], .next) := by
  have e1 := sl_nn_bytes (l := l) (a := i * 3) (b := i * 3 + 3) rfl rfl (by omega) (by omega)
  rw [show i * 3 + 3 - i * 3 = 3 by omega, hg] at e1
  have e2 : mkL (nI acc ++ nI x) = some (.lst (nI acc ++ nI x)) := mkL_ok (by simp [nI]; omega)
  have e3 : nI (acc ++ x) = nI acc ++ nI x := by simp [nI]
  rw [e3]
  exact vcS [(1, fp e1), (0, fp hx), (0, fp e2)] (by kernel_rfl)
theorem nI_app (a b : List Nat) : nI (a ++ b) = nI a ++ nI b := by simp [nI]
theorem gc3_eq (a b c : Nat) : gc3 a b c = (gn3 a b c).map sgn := rfl
theorem loop_part_encoded (n : Nat) (l : List Nat) (hl : l.length ≤ 20000) (hb : ∀ x ∈ l, x < 256) : ∀ (r : List Nat) (i : Nat) (acc : List Nat) (s3 : Slot), l.drop (i * 3) = r → i * 3 ≤ l.length + 3 → acc.length + 2 * r.length ≤ 60000 →
    ∃ s3', forGo (fun ρ => execs (FF (n + 1)) Gl 1000 ρ l0_part_encoded) 3 ((List.range' i ((r.length + 2) / 3)).map fun (j : Nat) => .int ((j * 3 : Nat) : Int)) [.val (.sc (.bytes l)), .val (.sc (.bytes signsL)), .own (.lst (nI acc)), s3] =
      some ([.val (.sc (.bytes l)), .val (.sc (.bytes signsL)), .own (.lst (nI (acc ++ (gns r).map sgn))), s3'], .next)
  | [], i, acc, s3, _, _, _ => ⟨s3, by simp [forGo, gns]⟩
  | [a], i, acc, s3, h, hi, hn => by
    have h1 : ∀ x ∈ [a], x < 256 := fun x hx => hb x (List.mem_of_mem_drop (h ▸ hx))
    refine ⟨.val (.sc (.int ((i * 3 : Nat) : Int))), ?_⟩
    have t := turn_part_encoded n (l := l) (i := i) (acc := acc) (s3 := s3) (by omega) (by simp [gc1] at hn ⊢; omega) (by rw [h]; rfl) (run_gc1 n (h1 a (by simp)))
    rw [show ([a].length + 2) / 3 = 0 + 1 by simp, List.range'_succ, List.range'_zero, List.map_cons, List.map_nil]
    simp only [forGo, List.set_cons_zero, List.set_cons_succ, t, Option.bind_some]
    rfl
  | [a, b], i, acc, s3, h, hi, hn => by
    have h1 : ∀ x ∈ [a, b], x < 256 := fun x hx => hb x (List.mem_of_mem_drop (h ▸ hx))
    refine ⟨.val (.sc (.int ((i * 3 : Nat) : Int))), ?_⟩
    have t := turn_part_encoded n (l := l) (i := i) (acc := acc) (s3 := s3) (by omega) (by simp [gc2] at hn ⊢; omega) (by rw [h]; rfl) (run_gc2 n (h1 a (by simp)) (h1 b (by simp)))
    rw [show ([a, b].length + 2) / 3 = 0 + 1 by simp, List.range'_succ, List.range'_zero, List.map_cons, List.map_nil]
    simp only [forGo, List.set_cons_zero, List.set_cons_succ, t, Option.bind_some]
    rfl
  | a :: b :: c :: r, i, acc, s3, h, hi, hn => by
    have h1 : ∀ x ∈ a :: b :: c :: r, x < 256 := fun x hx => hb x (List.mem_of_mem_drop (h ▸ hx))
    have hlen := congrArg List.length h
    simp only [List.length_drop, List.length_cons] at hlen hn
    have h2 : l.drop ((i + 1) * 3) = r := by
      have := drop_app (p := [a, b, c]) (r := r) h
      rw [Nat.add_mul]; exact this
    obtain ⟨s3', e⟩ := loop_part_encoded n l hl hb r (i + 1) (acc ++ gc3 a b c) (.val (.sc (.int ((i * 3 : Nat) : Int)))) h2 (by omega) (by simp [gc3]; omega)
    refine ⟨s3', ?_⟩
    have t := turn_part_encoded n (l := l) (i := i) (acc := acc) (s3 := s3) (by omega) (by simp [gc3]; omega) (by rw [h]; rfl) (run_gc3 n (h1 a (by simp)) (h1 b (by simp)) (h1 c (by simp)))
    rw [show ((a :: b :: c :: r).length + 2) / 3 = (r.length + 2) / 3 + 1 by simp only [List.length_cons]; omega, List.range'_succ, List.map_cons]
    simp only [forGo, List.set_cons_zero, List.set_cons_succ, t, Option.bind_some, e]
    rw [gc3_eq, gns, List.map_append, List.append_assoc]
theorem sgn_lt (x : Nat) : sgn x < 256 := by
  unfold sgn
  rw [List.getD_eq_getElem?_getD]
  cases h : signsL[x]? with
  | none => decide
  | some c =>
    have : ∀ c ∈ signsL, c < 256 := by decide +kernel
    exact this c (List.mem_of_getElem? h)
theorem run_part_encoded (n : Nat) {l : List Nat} (hl : l.length ≤ 20000) (hb : ∀ x ∈ l, x < 256) : FF (n + 2) 11 [.sc (.bytes l), .sc (.bytes signsL)] = some (.sc (.bytes ((gns l).map sgn))) := by
  rw [r_part_encoded]
  obtain ⟨s3', e1⟩ := loop_part_encoded n l hl hb l 0 [] .un (by simp) (by omega) (by simp; omega)
  have e2 := items_3 (b := l.length) (by omega)
  have e3 := small_nat (k := l.length) (by omega)
  obtain ⟨s3, s2, s1, s0, sm⟩ := small_lit
  have e4 : toBytes (nI ((gns l).map sgn)) = some ((gns l).map sgn) := toB_ok fun x hx => by
    obtain ⟨y, _, rfl⟩ := List.mem_map.mp hx
    exact sgn_lt y
  have e5 : nI [] = [] := rfl
  simp only [List.nil_append, e5] at e1
  exact vcF [(1, fp (rg3 s0 e3 s3 (by decide))), (0, fl e2), (0, fs e1), (0, fby e4)] (by kernel_rfl)
theorem run_one_line (n : Nat) {l : List Nat} (hl : l.length ≤ 20000) (hb : ∀ x ∈ l, x < 256) : FF (n + 3) 12 [.sc (.bytes l)] = some (.sc (.bytes (b64 l))) := by
  rw [r_one_line]
  have e1 := run_part_encoded n hl hb
  have e2 : iop .mod (-(l.length : Int)) 3 = some ((pad l : Nat) : Int) := by
    simp only [iop]
    rw [if_pos (by decide), Int.fmod_eq_emod_of_nonneg _ (by decide)]
    unfold pad
    congr 1; omega
  have hp : pad l ≤ 2 := by unfold pad; omega
  have e3 : bop .mul (.lst [.int 61]) (.sc (.int ((pad l : Nat) : Int))) = some (.lst (nI (List.replicate (pad l) 61))) := by
    rw [bop_r]
    rw [if_pos ⟨by rw [lim_val]; simp; omega, by rw [lim_val]; omega⟩]
    simp [nI, List.map_replicate]
  have e4 : toBytes (nI (List.replicate (pad l) 61)) = some (List.replicate (pad l) 61) := toB_ok fun x hx => by
    have := List.eq_of_mem_replicate hx; omega
  have e5 : mkB ((gns l).map sgn ++ List.replicate (pad l) 61) = some (.sc (.bytes (b64 l))) := mkB_ok (by have := gns_len l; simp; omega)
  exact vcF [(0, fp e1), (1, fo e2), (0, fp e3), (0, fby e4), (0, fp e5)] (by kernel_rfl)
theorem run_encoded (n : Nat) {l : List Nat} (hl : l.length ≤ 20000) (hb : ∀ x ∈ l, x < 256) : FF (n + 4) 14 [.sc (.bytes l), .sc (.int 0)] = some (.sc (.bytes (b64 l))) := by
  rw [r_encoded]
  have e1 := run_one_line n hl hb
  have e2 : FF (n + 3) 13 [.sc (.bytes (b64 l)), .sc (.int 0)] = some (.sc (.bytes (b64 l))) := by
    rw [r_in_lines]
    have : ((0 : Int) < 1) = True := eq_true (by decide)
    exact vcF [(0, ft' this)] (by kernel_rfl)
  exact vcF [(0, fp e1), (0, fp e2)] (by kernel_rfl)
end Mine

end
section
set_option Elab.async false
set_option autoImplicit false
set_option maxRecDepth 4000
set_option linter.unusedSimpArgs false
set_option linter.unusedVariables false
namespace Mine
theorem worth_sgn : ∀ i < 64, worthL.lookup ((sgn i : Nat) : Int) = some (.int (i : Int)) ∧ (sgn i : Int) ≠ 61 := by
  have : ∀ i ∈ List.range 64, ((worthL.lookup ((sgn i : Nat) : Int)).map (fun c => match c with | .int j => j == (i : Int) | _ => false)) = some true ∧ (sgn i : Int) ≠ 61 := by decide +kernel
  intro i hi
  obtain ⟨h1, h2⟩ := this i (List.mem_range.mpr hi)
  refine ⟨?_, h2⟩
  cases e : worthL.lookup ((sgn i : Nat) : Int) with
  | none => rw [e] at h1; cases h1
  | some c =>
    rw [e] at h1
    cases c <;> simp at h1
    rw [h1]
theorem pvIn_worth {i : Nat} (h : i < 64) : pvIn (.sc (.int ((sgn i : Nat) : Int))) (.dctI worthL) = some true := by
  rw [pvIn_di, (worth_sgn i h).1]; rfl
theorem idx_worth {i : Nat} (h : i < 64) : index (.dctI worthL) (.sc (.int ((sgn i : Nat) : Int))) = some (.sc (.int (i : Int))) := by
  rw [ix_di, (worth_sgn i h).1]; rfl
theorem gns_lt : ∀ l : List Nat, ∀ x ∈ gns l, x < 64
  | a :: b :: c :: r, x, h => by
    rw [gns, List.mem_append] at h
    rcases h with h | h
    · simp only [gn3, List.mem_cons, List.not_mem_nil, or_false] at h; omega
    · exact gns_lt r x h
  | [a, b], x, h => by simp only [gns, gn2, List.mem_cons, List.not_mem_nil, or_false] at h; omega
  | [a], x, h => by simp only [gns, gn1, List.mem_cons, List.not_mem_nil, or_false] at h; omega
  | [], x, h => by simp [gns] at h
theorem loop_worth (F : Fns) (s0 s4 s5 : Slot) (p : Nat) : ∀ (g : List Nat) (acc : List Nat) (s3 : Slot), (∀ x ∈ g, x < 64) → acc.length + g.length ≤ 60000 →
    ∃ s3', forGo (fun ρ => execs F Gl 1000 ρ l0_decoded) 3 (((g.map sgn ++ List.replicate p 61).map fun (x : Nat) => .int x)) [s0, .val (.dctI worthL), .own (.lst (nI acc)), s3, s4, s5] =
      some ([s0, .val (.dctI worthL), .own (.lst (nI (acc ++ g))), s3', s4, s5], .next) := by
  intro g
  induction g with
  | nil =>
    intro acc s3 _ _
    rcases p with _ | p
    ·
      exact ⟨s3, by simp [forGo]⟩
    ·
      refine ⟨.val (.sc (.int 61)), ?_⟩
      have b : execs F Gl 1000 [s0, .val (.dctI worthL), .own (.lst (nI acc)), .val (.sc (.int ((61 : Nat) : Int))), s4, s5] l0_decoded = some ([s0, .val (.dctI worthL), .own (.lst (nI acc)), .val (.sc (.int 61)), s4, s5], .brk) := by
        have e : (((61 : Nat) : Int) == 61) = true := rfl
        exact vcS [(0, fq e)] (by kernel_rfl)
      rw [List.map_nil, List.nil_append, List.replicate_succ, List.map_cons]
      simp only [forGo, List.set_cons_zero, List.set_cons_succ, b, Option.bind_some, List.append_nil]
  | cons x r ih =>
    intro acc s3 h hn
    have hx := h x List.mem_cons_self
    simp only [List.length_cons] at hn
    obtain ⟨s3', e⟩ := ih (acc ++ [x]) (.val (.sc (.int ((sgn x : Nat) : Int)))) (fun y hy => h y (List.mem_cons_of_mem _ hy)) (by simp; omega)
    refine ⟨s3', ?_⟩
    have b : execs F Gl 1000 [s0, .val (.dctI worthL), .own (.lst (nI acc)), .val (.sc (.int ((sgn x : Nat) : Int))), s4, s5] l0_decoded = some ([s0, .val (.dctI worthL), .own (.lst (nI (acc ++ [x]))), .val (.sc (.int ((sgn x : Nat) : Int))), s4, s5], .next) := by
      have e1 : (((sgn x : Nat) : Int) == 61) = false := by simpa using (worth_sgn x hx).2
      have e2 := pvIn_worth hx
      have e3 := idx_worth hx
      have e4 : mkL (nI acc ++ [Sc.int (x : Int)]) = some (.lst (nI acc ++ [Sc.int (x : Int)])) := mkL_ok (by simp [nI]; omega)
      have e5 : nI (acc ++ [x]) = nI acc ++ [Sc.int (x : Int)] := by simp [nI]
      rw [e5]
      exact vcS [(0, fq e1), (0, fb e2), (0, fp e3), (0, fp e4)] (by kernel_rfl)
    rw [List.map_cons, List.cons_append, List.map_cons]
    rw [List.append_assoc] at e
    exact f_next b e
theorem toB3 {a b c : Nat} : toBytes [.int ((a % 256 : Nat) : Int), .int ((b % 256 : Nat) : Int), .int ((c % 256 : Nat) : Int)] = some [a % 256, b % 256, c % 256] := toB_ok (l := [a % 256, b % 256, c % 256]) (by intro x hx; simp at hx; omega)
theorem toB2 {a b : Nat} : toBytes [.int ((a % 256 : Nat) : Int), .int ((b % 256 : Nat) : Int)] = some [a % 256, b % 256] := toB_ok (l := [a % 256, b % 256]) (by intro x hx; simp at hx; omega)
theorem toB1 {a : Nat} : toBytes [.int ((a % 256 : Nat) : Int)] = some [a % 256] := toB_ok (l := [a % 256]) (by intro x hx; simp at hx; omega)
theorem run_go3 (n : Nat) {p q r s : Nat} (h1 : p < 64) (h2 : q < 64) (h3 : r < 64) (h4 : s < 64) : ∃ z, FF (n + 1) 32 [.lst (nI [p, q, r, s])] =
    (let t := 64 * (64 * (64 * p + q) + r) + s; some (.tup [.bytes [t / 65536 % 256, t / 256 % 256, t % 256], .int z])) := by
  refine ⟨PySem.Builtin.bitAnd ((64 * (64 * (64 * p + q) + r) + s : Nat) : Int) 0, ?_⟩
  rw [r_group_octets]
  have e1 := mul64 p (by omega)
  have e2 := mul64 (64 * p + q) (by omega)
  have e3 := mul64 (64 * (64 * p + q) + r) (by omega)
  exact vcF [(2, fi (Int.zero_add (p : Int))), (0, fo e1), (1, fo e2), (1, fo e3), (7, fo (shr0 (64 * (64 * (64 * p + q) + r) + s))), (4, fo (shr16 (64 * (64 * (64 * p + q) + r) + s))), (0, fo (band255 ((64 * (64 * (64 * p + q) + r) + s) / 65536))), (1, fo (shr8 (64 * (64 * (64 * p + q) + r) + s))), (0, fo (band255 ((64 * (64 * (64 * p + q) + r) + s) / 256))), (1, fo (shr0 (64 * (64 * (64 * p + q) + r) + s))), (0, fo (band255 (64 * (64 * (64 * p + q) + r) + s))), (0, fby (toB3 (a := (64 * (64 * (64 * p + q) + r) + s) / 65536) (b := (64 * (64 * (64 * p + q) + r) + s) / 256) (c := (64 * (64 * (64 * p + q) + r) + s))))] (by kernel_rfl)
theorem run_go2 (n : Nat) {p q r : Nat} (h1 : p < 64) (h2 : q < 64) (h3 : r < 64) : ∃ z, FF (n + 1) 32 [.lst (nI [p, q, r])] =
    (let t := 64 * (64 * p + q) + r; some (.tup [.bytes [t / 4 / 256 % 256, t / 4 % 256], .int z])) := by
  refine ⟨PySem.Builtin.bitAnd ((64 * (64 * p + q) + r : Nat) : Int) 3, ?_⟩
  rw [r_group_octets]
  have e1 := mul64 p (by omega)
  have e2 := mul64 (64 * p + q) (by omega)
  exact vcF [(2, fi (Int.zero_add (p : Int))), (0, fo e1), (1, fo e2), (7, fo (shr2 (64 * (64 * p + q) + r))), (4, fo (shr8 ((64 * (64 * p + q) + r) / 4))), (0, fo (band255 ((64 * (64 * p + q) + r) / 4 / 256))), (1, fo (shr0 ((64 * (64 * p + q) + r) / 4))), (0, fo (band255 ((64 * (64 * p + q) + r) / 4))), (0, fby (toB2 (a := (64 * (64 * p + q) + r) / 4 / 256) (b := (64 * (64 * p + q) + r) / 4)))] (by kernel_rfl)
theorem run_go1 (n : Nat) {p q : Nat} (h1 : p < 64) (h2 : q < 64) : ∃ z, FF (n + 1) 32 [.lst (nI [p, q])] =
    (let t := 64 * p + q; some (.tup [.bytes [t / 16 % 256], .int z])) := by
  refine ⟨PySem.Builtin.bitAnd ((64 * p + q : Nat) : Int) 15, ?_⟩
  rw [r_group_octets]
  have e1 := mul64 p (by omega)
  exact vcF [(2, fi (Int.zero_add (p : Int))), (0, fo e1), (7, fo (shr4 (64 * p + q))), (4, fo (shr0 ((64 * p + q) / 16))), (0, fo (band255 ((64 * p + q) / 16))), (0, fby (toB1 (a := (64 * p + q) / 16)))] (by kernel_rfl)
end Mine

end
section
set_option Elab.async false
set_option autoImplicit false
set_option maxRecDepth 4000
set_option linter.unusedSimpArgs false
set_option linter.unusedVariables false
namespace Mine
theorem run_worth (n : Nat) : FF (n + 1) 31 [.sc (.bytes signsL)] = some (.dctI worthL) := by kernel_rfl
noncomputable def bL (l : List (List Nat)) : List Sc := l.map .bytes
theorem sub_gt {a b : Nat} (h : b + 1 < a) : ((1 : Int) < (a : Int) - (b : Int)) = True := eq_true (by omega)
theorem nI_drop (l : List Nat) (k m : Nat) : (((nI l).drop k).take m) = nI ((l.drop k).take m) := by simp [nI, List.map_drop, List.map_take]
theorem turn_decoded (n : Nat) {s0 s1 s3 s5 : Slot} {W g x : List Nat} {acc : List (List Nat)} {z : Int} {i : Nat} (hW : W.length ≤ 60000) (hi : i * 4 + 1 < W.length) (ha : acc.length ≤ 60000)
    (hg : (W.drop (i * 4)).take 4 = g) (hx : FF (n + 1) 32 [.lst (nI g)] = some (.tup [.bytes x, .int z])) :
    execs (FF (n + 1)) Gl 1000 [s0, s1, .own (.lst (nI W)), s3, .own (.lst (bL acc)), .val (.sc (.int ((i * 4 : Nat) : Int)))] l1_decoded =
      some ([s0, s1, .own (.lst (nI W)), s3, .own (.lst (bL (acc ++ [x]))), .val (.sc (.int ((i * 4 : Nat) : Int)))], .next) := by
  have e1 := sl_nn_lst (l := nI W) (a := i * 4) (b := i * 4 + 4) rfl rfl (by omega) (by omega)
  rw [show i * 4 + 4 - i * 4 = 4 by omega, nI_drop, hg] at e1
  have e2 : mkL (bL acc ++ [Sc.bytes x]) = some (.lst (bL acc ++ [Sc.bytes x])) := mkL_ok (by simp [bL]; omega)
  have e3 : bL (acc ++ [x]) = bL acc ++ [Sc.bytes x] := by simp [bL]
  have e4 : (nI W).length = W.length := by simp [nI]
  have e5 := sub_gt hi
  have e6 : index (.tup [.bytes x, .int z]) (.sc (.int 0)) = some (.sc (.bytes x)) := idx_tup (k := 0) rfl (by simp) rfl
  have e7 : ((i * 4 : Nat) : Int) + 4 = ((i * 4 + 4 : Nat) : Int) := rfl
  rw [e3]
  exact vcS [(0, fln e4), (1, ft' e5), (0, fi e7), (0, fp e1), (0, fp hx), (0, fp e6), (0, fp e2)] (by kernel_rfl)
theorem loop_decoded (n : Nat) {s0 s1 s3 : Slot} (W : List Nat) (hW : W.length ≤ 50000) : ∀ (r : List Nat) (i : Nat) (acc : List (List Nat)) (s5 : Slot), W.drop (i * 4) = gns r → i * 4 ≤ W.length → acc.length + r.length ≤ 60000 → (∀ x ∈ r, x < 256) →
    ∃ s5' acc', forGo (fun ρ => execs (FF (n + 1)) Gl 1000 ρ l1_decoded) 5 ((List.range' i (((gns r).length + 3) / 4)).map fun (j : Nat) => .int ((j * 4 : Nat) : Int)) [s0, s1, .own (.lst (nI W)), s3, .own (.lst (bL acc)), s5] =
      some ([s0, s1, .own (.lst (nI W)), s3, .own (.lst (bL (acc ++ acc'))), s5'], .next) ∧ acc'.flatten = r
  | [], i, acc, s5, _, _, _, _ => ⟨s5, [], by simp [forGo, gns], rfl⟩
  | [a], i, acc, s5, h, hi, hn, hb => by
    have ha := hb a (by simp)
    have hlen := congrArg List.length h
    simp [gns, gn1] at hlen
    obtain ⟨z, hz⟩ := run_go1 n (p := a * 16 / 64 % 64) (q := a * 16 % 64) (by omega (splitDisjunctions := true)) (by omega (splitDisjunctions := true))
    have hx : FF (n + 1) 32 [.lst (nI (gns [a]))] = some (.tup [.bytes [a], .int z]) := by
      have e : [(64 * (a * 16 / 64 % 64) + a * 16 % 64) / 16 % 256] = [a] := by congr 1; omega (splitDisjunctions := true)
      simp only [e] at hz
      exact hz
    have t := turn_decoded n (W := W) (s0 := s0) (s1 := s1) (s3 := s3) (s5 := s5) (acc := acc) (i := i) (by omega (splitDisjunctions := true)) (by omega (splitDisjunctions := true)) (by omega (splitDisjunctions := true)) (by rw [h]; rfl) hx
    refine ⟨.val (.sc (.int ((i * 4 : Nat) : Int))), [[a]], ?_, rfl⟩
    rw [show ((gns [a]).length + 3) / 4 = 0 + 1 by simp [gns, gn1], List.range'_succ, List.range'_zero, List.map_cons, List.map_nil]
    simp only [forGo, List.set_cons_zero, List.set_cons_succ, t, Option.bind_some]
  | [a, b], i, acc, s5, h, hi, hn, hb => by
    have ha := hb a (by simp); have hb' := hb b (by simp)
    have hlen := congrArg List.length h
    simp [gns, gn2] at hlen
    obtain ⟨z, hz⟩ := run_go2 n (p := (256 * a + b) * 4 / 4096 % 64) (q := (256 * a + b) * 4 / 64 % 64) (r := (256 * a + b) * 4 % 64) (by omega (splitDisjunctions := true)) (by omega (splitDisjunctions := true)) (by omega (splitDisjunctions := true))
    have hx : FF (n + 1) 32 [.lst (nI (gns [a, b]))] = some (.tup [.bytes [a, b], .int z]) := by
      have e1 : (64 * (64 * ((256 * a + b) * 4 / 4096 % 64) + (256 * a + b) * 4 / 64 % 64) + (256 * a + b) * 4 % 64) / 4 / 256 % 256 = a := by omega (splitDisjunctions := true)
      have e2 : (64 * (64 * ((256 * a + b) * 4 / 4096 % 64) + (256 * a + b) * 4 / 64 % 64) + (256 * a + b) * 4 % 64) / 4 % 256 = b := by omega (splitDisjunctions := true)
      simp only [e1, e2] at hz
      exact hz
    have t := turn_decoded n (W := W) (s0 := s0) (s1 := s1) (s3 := s3) (s5 := s5) (acc := acc) (i := i) (by omega (splitDisjunctions := true)) (by omega (splitDisjunctions := true)) (by omega (splitDisjunctions := true)) (by rw [h]; rfl) hx
    refine ⟨.val (.sc (.int ((i * 4 : Nat) : Int))), [[a, b]], ?_, rfl⟩
    rw [show ((gns [a, b]).length + 3) / 4 = 0 + 1 by simp [gns, gn2], List.range'_succ, List.range'_zero, List.map_cons, List.map_nil]
    simp only [forGo, List.set_cons_zero, List.set_cons_succ, t, Option.bind_some]
  | a :: b :: c :: r, i, acc, s5, h, hi, hn, hb => by
    have ha := hb a (by simp); have hb' := hb b (by simp); have hc := hb c (by simp)
    have hlen := congrArg List.length h
    simp only [List.length_cons] at hn
    rw [gns] at h hlen
    simp [gn3] at hlen
    have h2 : W.drop ((i + 1) * 4) = gns r := by
      have := drop_app (p := gn3 a b c) (r := gns r) h
      rw [Nat.add_mul]; exact this
    obtain ⟨z, hz⟩ := run_go3 n (p := (256 * (256 * a + b) + c) / 262144 % 64) (q := (256 * (256 * a + b) + c) / 4096 % 64) (r := (256 * (256 * a + b) + c) / 64 % 64) (s := (256 * (256 * a + b) + c) % 64) (by omega (splitDisjunctions := true)) (by omega (splitDisjunctions := true)) (by omega (splitDisjunctions := true)) (by omega (splitDisjunctions := true))
    have hx : FF (n + 1) 32 [.lst (nI (gn3 a b c))] = some (.tup [.bytes [a, b, c], .int z]) := by
      have e0 : 64 * (64 * (64 * ((256 * (256 * a + b) + c) / 262144 % 64) + (256 * (256 * a + b) + c) / 4096 % 64) + (256 * (256 * a + b) + c) / 64 % 64) + (256 * (256 * a + b) + c) % 64 = 256 * (256 * a + b) + c := by omega (splitDisjunctions := true)
      simp only [e0] at hz
      have e1 : (256 * (256 * a + b) + c) / 65536 % 256 = a := by omega (splitDisjunctions := true)
      have e2 : (256 * (256 * a + b) + c) / 256 % 256 = b := by omega (splitDisjunctions := true)
      have e3 : (256 * (256 * a + b) + c) % 256 = c := by omega (splitDisjunctions := true)
      rw [e1, e2, e3] at hz
      exact hz
    obtain ⟨s5', acc', e, hf⟩ := loop_decoded n (s0 := s0) (s1 := s1) (s3 := s3) W hW r (i + 1) (acc ++ [[a, b, c]]) (.val (.sc (.int ((i * 4 : Nat) : Int)))) h2 (by omega (splitDisjunctions := true)) (by simp; omega (splitDisjunctions := true)) (fun x hx => hb x (by simp [hx]))
    have t := turn_decoded n (W := W) (s0 := s0) (s1 := s1) (s3 := s3) (s5 := s5) (acc := acc) (i := i) (by omega (splitDisjunctions := true)) (by omega (splitDisjunctions := true)) (by omega (splitDisjunctions := true)) (by rw [h]; rfl) hx
    refine ⟨s5', [a, b, c] :: acc', ?_, by simp [hf]⟩
    rw [gns, show ((gn3 a b c ++ gns r).length + 3) / 4 = ((gns r).length + 3) / 4 + 1 by simp [gn3]; omega (splitDisjunctions := true), List.range'_succ, List.map_cons]
    rw [List.append_assoc] at e
    exact f_next t e
theorem run_decoded (n : Nat) {l : List Nat} (hl : l.length ≤ 20000) (hb : ∀ x ∈ l, x < 256) : FF (n + 2) 33 [.sc (.bytes (b64 l))] = some (.sc (.bytes l)) := by
  rw [r_decoded]
  have hg := gns_len l
  obtain ⟨s3', e1⟩ := loop_worth (FF (n + 1)) (.val (.sc (.bytes (b64 l)))) .un .un (pad l) (gns l) [] .un (gns_lt l) (by simp; omega)
  obtain ⟨s5', acc', e2, hf⟩ := loop_decoded n (s0 := .val (.sc (.bytes (b64 l)))) (s1 := .val (.dctI worthL)) (s3 := s3') (gns l) (by omega) l 0 [] .un (by simp) (by omega) (by simp; omega) hb
  have e3 := items_4 (b := (gns l).length) (by omega)
  have e4 := small_nat (k := (gns l).length) (by omega)
  obtain ⟨s3, s2, s1, s0, sm⟩ := small_lit
  have e5 := run_worth n
  have e6 : smallI 4 = true := by decide
  have e7 : (nI (gns l)).length = (gns l).length := by simp [nI]
  have e8 : nI [] = [] := rfl
  have e9 : bL [] = [] := rfl
  have e10 : toByts (bL acc') = some acc' := toByts_ok acc'
  have e11 : joinL [] acc' = l := by rw [joinL_nil, hf]
  have e12 : mkB l = some (.sc (.bytes l)) := mkB_ok (by omega)
  have e13 : items (.sc (.bytes (b64 l))) = some (((gns l).map sgn ++ List.replicate (pad l) 61).map fun (x : Nat) => .int x) := rfl
  simp only [List.nil_append, e8, e9] at e1 e2
  exact vcF [(0, fp e5), (0, fl e13), (0, fs e1), (0, fln e7), (0, fp (rg3 s0 e4 e6 (by decide))), (0, fl e3), (0, fs e2), (0, fp (jb_ok e10 (by rw [e11]; exact e12)))] (by kernel_rfl)
end Mine

end
section
set_option Elab.async false
set_option autoImplicit false
set_option maxRecDepth 4000
set_option linter.unusedSimpArgs false
set_option linter.unusedVariables false
namespace Mine
inductive Wy where
  | q | b
noncomputable def Wy.c : Wy → Nat
  | .q => 81 | .b => 66
noncomputable def frame (k : Cs) (w : Wy) (o : List Nat) : List Nat := [61, 63] ++ (k.n ++ [63] ++ [w.c]) ++ [63] ++ o ++ [63, 61]
theorem n_len (k : Cs) : k.n.length ≤ 10 := by cases k <;> decide
theorem n_lt (k : Cs) : ∀ x ∈ k.n, x < 128 := by cases k <;> decide
theorem wc_lt (w : Wy) : w.c < 128 := by cases w <;> decide
theorem run_framed (n : Nat) (k : Cs) (w : Wy) {o : List Nat} (ho : o.length ≤ 60000) : FF (n + 1) 16 [.sc (.str k.n), .sc (.str [w.c]), .sc (.bytes o)] = some (.sc (.bytes (frame k w o))) := by
  rw [r_framed_word]
  have hn := n_len k
  have e1 : ev (FF n) Gl true [.val (.sc (.str k.n)), .val (.sc (.str [w.c])), .val (.sc (.bytes o)), .un] c0_framed_word = some (.lst (nI (k.n ++ [63] ++ [w.c]))) := by
    refine cmp_of (p := .sc (.str (k.n ++ [63] ++ [w.c]))) ?_ (items_str _) (by simp; omega) ?_
    · have m1 : mkS (k.n ++ [63]) = some (.sc (.str (k.n ++ [63]))) := mkS_ok (by simp; omega)
      have m2 : mkS (k.n ++ [63] ++ [w.c]) = some (.sc (.str (k.n ++ [63] ++ [w.c]))) := mkS_ok (by simp; omega)
      exact vcE [(0, fp m1), (0, fp m2)] (by kernel_rfl)
    · unfold nI
      refine cmpM fun c hc => ?_
      exact vcC [] (by kernel_rfl)
  have e2 : toBytes (nI (k.n ++ [63] ++ [w.c])) = some (k.n ++ [63] ++ [w.c]) := toB_ok fun x hx => by
    simp only [List.mem_append, List.mem_singleton] at hx
    rcases hx with (hx | rfl) | rfl
    · have := n_lt k x hx; omega
    · omega
    · have := wc_lt w; omega
  have m : ∀ l : List Nat, l.length ≤ 65536 → mkB l = some (.sc (.bytes l)) := fun l h => mkB_ok h
  have m1 := m ([61, 63] ++ (k.n ++ [63] ++ [w.c])) (by simp; omega)
  have m2 := m ([61, 63] ++ (k.n ++ [63] ++ [w.c]) ++ [63]) (by simp; omega)
  have m3 := m ([61, 63] ++ (k.n ++ [63] ++ [w.c]) ++ [63] ++ o) (by simp; omega)
  have m4 := m (frame k w o) (by unfold frame; simp; omega)
  unfold frame at m4 ⊢
  exact vcF [(0, fw e1), (0, fby e2), (0, fp m1), (0, fp m2), (0, fp m3), (0, fp m4)] (by kernel_rfl)
noncomputable def pay : Wy → List Nat → List Nat
  | .q, o => o.flatMap qe
  | .b, o => b64 o
theorem run_payload (n : Nat) (w : Wy) {o : List Nat} (ho : o.length ≤ 10000) (hB : ∀ x ∈ o, x ∈ octB) : FF (n + 5) 15 [.sc (.bytes o), .sc (.str [w.c])] = some (.sc (.bytes (pay w o))) := by
  rw [r_payload]
  induction w with
  | q =>
    have e1 := run_qenc (n + 2) hB (by omega)
    have e2 : ([Wy.q.c] == [81]) = true := rfl
    exact vcF [(0, fq e2), (0, fp e1)] (by kernel_rfl)
  | b =>
    have e1 := run_encoded n (l := o) (by omega) fun x hx => B_lt x (hB x hx)
    have e2 : ([Wy.b.c] == [81]) = false := rfl
    exact vcF [(0, fq e2), (0, fp e1)] (by kernel_rfl)
theorem way_in (w : Wy) : pvIn (.sc (.str [w.c])) (.tup [.str [81], .str [66]]) = some true := by cases w <;> rfl
theorem oct_all (k : Cs) {t : List Nat} (ht : okT t) (hk : hasT k t) : ∀ x ∈ t.flatMap (oct k), x ∈ octB := fun x hx => by
  obtain ⟨c, hc, hx⟩ := List.mem_flatMap.mp hx
  exact oct_B k c (ht c hc) (hk c hc) x hx
noncomputable def word (k : Cs) (w : Wy) (t : List Nat) : List Nat := frame k w (pay w (t.flatMap (oct k)))
theorem run_encoded_word (n : Nat) (k : Cs) (w : Wy) {t : List Nat} (ht : okT t) (hk : hasT k t) (hl : t.length ≤ 3000) (hw : (word k w t).length ≤ 75) :
    FF (n + 6) 17 [.sc (.str t), .sc (.str k.n), .sc (.str [w.c])] = some (.sc (.bytes (word k w t))) := by
  rw [r_encoded_word]
  have e1 := run_octets_in (n + 2) k ht hk (by omega)
  have hf := flat_len k t
  have e2 := run_payload n w (o := t.flatMap (oct k)) (by omega) (oct_all k ht hk)
  have hpl : (pay w (t.flatMap (oct k))).length ≤ 75 := by
    unfold word frame at hw
    simp at hw; omega
  have e3 := run_framed (n + 4) k w (o := pay w (t.flatMap (oct k))) (by omega)
  have e4 := way_in w
  have e5 : ((75 : Int) < ((word k w t).length : Int)) = False := eq_false (by omega)
  unfold word at e5 ⊢
  exact vcF [(0, fbn e4), (0, fp e1), (0, fp e2), (0, fp e3), (1, ff' e5)] (by kernel_rfl)
noncomputable def sz (k : Cs) : Wy → Nat → Nat
  | .q, c => ((oct k c).flatMap qe).length
  | .b, c => (oct k c).length
theorem run_sizes (n : Nat) (k : Cs) (w : Wy) {t : List Nat} (ht : okT t) (hk : hasT k t) (hl : t.length ≤ 3000) :
    FF (n + 4) 18 [.sc (.str t), .sc (.str k.n), .sc (.str [w.c])] = some (.lst (nI (t.map (sz k w)))) := by
  rw [r_sign_sizes]
  have e1 : ev (FF (n + 3)) Gl false [.val (.sc (.str t)), .val (.sc (.str k.n)), .val (.sc (.str [w.c])), .un, .un, .un] c0_sign_sizes = some (.lst (bL (t.map (oct k)))) := by
    refine cmp_of (p := .sc (.str t)) (by exact vcE [] (by kernel_rfl)) (items_str _) (by simp; omega) ?_
    unfold bL
    rw [List.map_map]
    refine cmpM fun c hc => ?_
    have e := run_octets_in n k (t := [c]) (fun d hd => by rw [List.mem_singleton.mp hd]; exact ht c hc) (fun d hd => by rw [List.mem_singleton.mp hd]; exact hk c hc) (by simp)
    rw [show [c].flatMap (oct k) = oct k c by simp] at e
    exact vcC [(0, fp e)] (by kernel_rfl)
  have e2 : ∀ s5 : Slot, ev (FF (n + 3)) Gl true [.val (.sc (.str t)), .val (.sc (.str k.n)), .val (.sc (.str [w.c])), .val (.lst (bL (t.map (oct k)))), .un, s5] c1_sign_sizes = some (.lst (nI (t.map (sz k w)))) := by
    intro s5
    refine cmp_of (p := .lst (bL (t.map (oct k)))) (by exact vcE [] (by kernel_rfl)) (items_lst _) (by simp [bL]; omega) ?_
    unfold nI bL
    rw [List.map_map, List.map_map]
    refine cmpM fun c hc => ?_
    induction w with
    | q =>
      have e := run_qenc (n + 1) (l := oct k c) (oct_B k c (ht c hc) (hk c hc)) (by have := oct_len k c; omega)
      have e2 : ([Wy.q.c] == [81]) = true := rfl
      exact vcC [(0, fq e2), (0, fp e)] (by kernel_rfl)
    | b =>
      have e2 : ([Wy.b.c] == [81]) = false := rfl
      exact vcC [(0, fq e2)] (by kernel_rfl)
  exact vcF [(0, fw e1), (0, fw (e2 .un))] (by kernel_rfl)
end Mine

end
section
set_option Elab.async false
set_option autoImplicit false
set_option maxRecDepth 4000
set_option linter.unusedSimpArgs false
set_option linter.unusedVariables false
namespace Mine
/-- the cut of a text -/
noncomputable def cuts (f : Nat → Nat) (room : Nat) : List Nat → Nat → List Nat → List (List Nat)
  | cur, _, [] => [cur]
  | cur, used, c :: r => if room < used + f c then cur :: cuts f room [c] (f c) r else cuts f room (cur ++ [c]) (used + f c) r
noncomputable def endsAt : Nat → List (List Nat) → List Nat
  | _, [] => []
  | b, x :: r => (b + x.length) :: endsAt (b + x.length) r
theorem cuts_flat (f : Nat → Nat) (room : Nat) : ∀ (r cur : List Nat) (used : Nat), (cuts f room cur used r).flatten = cur ++ r
  | [], cur, used => by simp [cuts]
  | c :: r, cur, used => by
    unfold cuts
    split
    · rw [List.flatten_cons, cuts_flat]; simp
    · rw [cuts_flat]; simp
theorem cuts_ok (f : Nat → Nat) (room : Nat) (hf : ∀ c, f c ≤ room) : ∀ (r cur : List Nat) (used : Nat), (cur.map f).sum = used → used ≤ room → ∀ x ∈ cuts f room cur used r, (x.map f).sum ≤ room
  | [], cur, used, h1, h2, x, hx => by
    simp only [cuts, List.mem_singleton] at hx
    subst hx; omega
  | c :: r, cur, used, h1, h2, x, hx => by
    unfold cuts at hx
    split at hx
    · rcases List.mem_cons.mp hx with rfl | hx
      · omega
      · exact cuts_ok f room hf r [c] (f c) (by simp) (hf c) x hx
    · exact cuts_ok f room hf r (cur ++ [c]) (used + f c) (by simp [h1]) (by omega) x hx
theorem cuts_mem (f : Nat → Nat) (room : Nat) {r x : List Nat} (hx : x ∈ cuts f room [] 0 r) : ∀ c ∈ x, c ∈ r := fun c hc => by
  have := cuts_flat f room r [] 0
  rw [List.nil_append] at this
  rw [← this]
  exact List.mem_flatten.mpr ⟨x, hx, hc⟩
theorem idx_nI {l : List Nat} {k c : Nat} (h : l[k]? = some c) (hl : l.length ≤ 65536) : index (.lst (nI l)) (.sc (.int (k : Int))) = some (.sc (.int (c : Int))) := by
  refine idx_lst ?_ (by simpa [nI] using hl) rfl
  simp [nI, h]
theorem loop_chunk_ends (F : Fns) (f : Nat → Nat) (room : Nat) (hf : ∀ c, f c ≤ room) (t : List Nat) (ht : t.length ≤ 60000) : ∀ (r : List Nat) (i : Nat) (cur : List Nat) (used b : Nat) (acc : List Nat) (s4 : Slot), t.drop i = r → i ≤ t.length → b + cur.length = i → acc.length ≤ i →
    ∃ acc' u s4', forGo (fun ρ => execs F Gl 1000 ρ l0_chunk_ends) 4 ((List.range' i r.length).map fun (j : Nat) => .int (j : Int)) [.val (.lst (nI (t.map f))), .val (.sc (.int (room : Int))), .own (.lst (nI acc)), .val (.sc (.int (used : Int))), s4] =
      some ([.val (.lst (nI (t.map f))), .val (.sc (.int (room : Int))), .own (.lst (nI acc')), u, s4'], .next) ∧ acc' ++ [t.length] = acc ++ endsAt b (cuts f room cur used r) ∧ acc'.length ≤ t.length := by
  intro r
  induction r with
  | nil =>
    intro i cur used b acc s4 h hi hb ha
    have := drop_nil h hi
    refine ⟨acc, .val (.sc (.int (used : Int))), s4, by simp [forGo], ?_, by omega⟩
    simp [cuts, endsAt]; omega
  | cons c r ih =>
    intro i cur used b acc s4 h hi hb ha
    obtain ⟨h1, h2, h3⟩ := drop_cons h
    have e1 : index (.lst (nI (t.map f))) (.sc (.int (i : Int))) = some (.sc (.int ((f c : Nat) : Int))) := idx_nI (by simp [h1]) (by simp; omega)
    have hfc := hf c
    have e2 : ((room : Int) < ((f c : Nat) : Int)) = False := eq_false (by omega)
    rw [List.length_cons, List.range'_succ, List.map_cons]
    by_cases hr : room < used + f c
    · obtain ⟨acc', u, s4', e, he, hl⟩ := ih (i + 1) [c] (f c) i (acc ++ [i]) (.val (.sc (.int (i : Int)))) h2 (by omega) (by simp) (by simp; omega)
      refine ⟨acc', u, s4', ?_, ?_, hl⟩
      · have e3 : ((room : Int) < (used : Int) + ((f c : Nat) : Int)) = True := eq_true (by omega)
        have e4 : mkL (nI acc ++ [Sc.int (i : Int)]) = some (.lst (nI acc ++ [Sc.int (i : Int)])) := mkL_ok (by simp [nI]; omega)
        have e5 : nI (acc ++ [i]) = nI acc ++ [Sc.int (i : Int)] := by simp [nI]
        have b : execs F Gl 1000 [.val (.lst (nI (t.map f))), .val (.sc (.int (room : Int))), .own (.lst (nI acc)), .val (.sc (.int (used : Int))), .val (.sc (.int (i : Int)))] l0_chunk_ends =
            some ([.val (.lst (nI (t.map f))), .val (.sc (.int (room : Int))), .own (.lst (nI (acc ++ [i]))), .val (.sc (.int ((f c : Nat) : Int))), .val (.sc (.int (i : Int)))], .next) := by
          rw [e5]
          exact vcS [(0, fp e1), (0, ff' e2), (0, fp e1), (1, ft' e3), (0, fp e4), (0, fp e1), (0, fi (Int.zero_add ((f c : Nat) : Int)))] (by kernel_rfl)
        exact f_next b e
      · rw [he]
        simp [cuts, hr, endsAt, hb]
    · obtain ⟨acc', u, s4', e, he, hl⟩ := ih (i + 1) (cur ++ [c]) (used + f c) b acc (.val (.sc (.int (i : Int)))) h2 (by omega) (by simp; omega) (by omega)
      refine ⟨acc', u, s4', ?_, ?_, hl⟩
      · have e3 : ((room : Int) < ((used + f c : Nat) : Int)) = False := eq_false (by omega)
        have b : execs F Gl 1000 [.val (.lst (nI (t.map f))), .val (.sc (.int (room : Int))), .own (.lst (nI acc)), .val (.sc (.int (used : Int))), .val (.sc (.int (i : Int)))] l0_chunk_ends =
            some ([.val (.lst (nI (t.map f))), .val (.sc (.int (room : Int))), .own (.lst (nI acc)), .val (.sc (.int ((used + f c : Nat) : Int))), .val (.sc (.int (i : Int)))], .next) := by
          exact vcS [(0, fp e1), (0, ff' e2), (0, fp e1), (1, ff' e3), (0, fp e1)] (by kernel_rfl)
        exact f_next b e
      · rw [he]
        simp [cuts, hr]
theorem run_chunk_ends (n : Nat) (f : Nat → Nat) (room : Nat) (hf : ∀ c, f c ≤ room) {t : List Nat} (ht : t.length ≤ 50000) :
    FF (n + 1) 19 [.lst (nI (t.map f)), .sc (.int (room : Int))] = some (.lst (nI (endsAt 0 (cuts f room [] 0 t)))) := by
  rw [r_chunk_ends]
  obtain ⟨acc', u, s4', e1, e2, hl⟩ := loop_chunk_ends (FF n) f room hf t (by omega) t 0 [] 0 0 [] .un rfl (by omega) rfl (by simp)
  have e3 : (nI (t.map f)).length = t.length := by simp [nI]
  have e4 := items_r0 (b := t.length) (by omega)
  have e5 := small_nat (k := t.length) (by omega)
  have e6 : mkL (nI acc' ++ [Sc.int (t.length : Int)]) = some (.lst (nI (endsAt 0 (cuts f room [] 0 t)))) := by
    rw [List.nil_append] at e2
    rw [← e2, nI_app]
    exact mkL_ok (by simp [nI]; omega)
  have e7 : nI [] = [] := rfl
  simp only [e7, Int.natCast_zero] at e1
  exact vcF [(0, fln e3), (0, fsm e5), (0, fl e4), (0, fs e1), (0, fln e3), (0, fp e6)] (by kernel_rfl)
end Mine

end
section
set_option Elab.async false
set_option autoImplicit false
set_option maxRecDepth 4000
set_option linter.unusedSimpArgs false
set_option linter.unusedVariables false
namespace Mine
noncomputable def rq (k : Cs) : Nat := 75 - (k.n.length + 7)
noncomputable def rm (k : Cs) : Wy → Nat
  | .q => rq k
  | .b => rq k / 4 * 3
theorem rm_ge (k : Cs) (w : Wy) : 9 ≤ rm k w := by cases k <;> cases w <;> decide
theorem sz_le (k : Cs) (w : Wy) (c : Nat) : sz k w c ≤ rm k w := by
  have h := rm_ge k w
  have h1 := oct_len k c
  have h2 := flat_qe_len (oct k c)
  cases w <;> simp only [sz] <;> omega
theorem frame_len (k : Cs) (w : Wy) (o : List Nat) : (frame k w o).length = k.n.length + 7 + o.length := by
  unfold frame; simp; omega
theorem gns_len2 : ∀ l : List Nat, (gns l).length + pad l = 4 * ((l.length + 2) / 3)
  | a :: b :: c :: r => by
    have := gns_len2 r
    have e : pad (a :: b :: c :: r) = pad r := by unfold pad; simp only [List.length_cons]; omega (splitDisjunctions := true)
    rw [e, gns, List.length_append]
    simp only [List.length_cons, gn3, List.length_nil]
    omega (splitDisjunctions := true)
  | [a, b] => by simp [gns, gn2, pad]
  | [a] => by simp [gns, gn1, pad]
  | [] => by simp [gns, pad]
theorem b64_len (l : List Nat) : (b64 l).length = 4 * ((l.length + 2) / 3) := by
  unfold b64
  rw [List.length_append, List.length_map, List.length_replicate, gns_len2]
theorem sz_q (k : Cs) : ∀ t : List Nat, (t.map (sz k .q)).sum = ((t.flatMap (oct k)).flatMap qe).length
  | [] => rfl
  | c :: r => by
    rw [List.map_cons, List.sum_cons, sz_q k r, List.flatMap_cons, List.flatMap_append, List.length_append]; rfl
theorem sz_b (k : Cs) : ∀ t : List Nat, (t.map (sz k .b)).sum = (t.flatMap (oct k)).length
  | [] => rfl
  | c :: r => by
    rw [List.map_cons, List.sum_cons, sz_b k r, List.flatMap_cons, List.length_append]; rfl
theorem word_len (k : Cs) (w : Wy) {x : List Nat} (h : (x.map (sz k w)).sum ≤ rm k w) : (word k w x).length ≤ 75 := by
  unfold word
  rw [frame_len]
  have hn := n_len k
  induction w with
  | q =>
    rw [sz_q] at h
    simp only [rm, rq] at h
    simp only [pay]
    omega (splitDisjunctions := true)
  | b =>
    rw [sz_b] at h
    simp only [rm, rq] at h
    simp only [pay, b64_len]
    omega (splitDisjunctions := true)
noncomputable def wordsL (k : Cs) (w : Wy) (t : List Nat) : List (List Nat) := (cuts (sz k w) (rm k w) [] 0 t).map (word k w)
noncomputable def words (k : Cs) (w : Wy) (t : List Nat) : List Nat := joinL [32] (wordsL k w t)
theorem cuts_len (f : Nat → Nat) (room : Nat) : ∀ (r cur : List Nat) (used : Nat), (cuts f room cur used r).length ≤ r.length + 1
  | [], cur, used => by simp [cuts]
  | c :: r, cur, used => by
    unfold cuts
    split
    · have := cuts_len f room r [c] (f c); simp; omega (splitDisjunctions := true)
    · have := cuts_len f room r (cur ++ [c]) (used + f c); simp; omega (splitDisjunctions := true)
theorem joinL_le (m : Nat) (sep : List Nat) : ∀ (l : List (List Nat)), (∀ x ∈ l, x.length ≤ m) → (joinL sep l).length ≤ l.length * (m + sep.length)
  | [], _ => by simp [joinL]
  | x :: r, h => by
    rw [joinL_eq]
    have h0 := h x List.mem_cons_self
    have : ∀ r : List (List Nat), (∀ x ∈ r, x.length ≤ m) → (r.flatMap fun y => sep ++ y).length ≤ r.length * (m + sep.length) := by
      intro r
      induction r with
      | nil => simp
      | cons y r ih =>
        intro h
        have h1 := h y List.mem_cons_self
        have := ih fun z hz => h z (List.mem_cons_of_mem _ hz)
        rw [List.flatMap_cons, List.length_append, List.length_append, List.length_cons, Nat.add_mul]
        omega
    have := this r fun z hz => h z (List.mem_cons_of_mem _ hz)
    rw [List.length_append, List.length_cons, Nat.add_mul]
    omega
theorem words_ok (k : Cs) (w : Wy) {t : List Nat} : ∀ x ∈ cuts (sz k w) (rm k w) [] 0 t, (word k w x).length ≤ 75 := fun x hx =>
  word_len k w (cuts_ok _ _ (sz_le k w) t [] 0 rfl (by omega) x hx)
theorem words_len (k : Cs) (w : Wy) {t : List Nat} (ht : t.length ≤ 700) : (words k w t).length ≤ 60000 := by
  have h := joinL_le 75 [32] (wordsL k w t) fun x hx => by
    obtain ⟨y, hy, rfl⟩ := List.mem_map.mp hx
    exact words_ok k w y hy
  have h2 := cuts_len (sz k w) (rm k w) t [] 0
  unfold words
  unfold wordsL at h ⊢
  rw [List.length_map] at h
  simp at h
  omega
theorem loop_words_of (n : Nat) (k : Cs) (w : Wy) (t : List Nat) (ht : okT t) (hk : hasT k t) (hl : t.length ≤ 2000) {s3 s4 : Slot} : ∀ (X : List (List Nat)) (b : Nat) (acc : List (List Nat)) (s7 : Slot), t.drop b = X.flatten → b ≤ t.length → (∀ x ∈ X, (word k w x).length ≤ 75) → acc.length + X.length ≤ 60000 →
    ∃ s6 s7', forGo (fun ρ => execs (FF (n + 6)) Gl 1000 ρ l0_words_of) 7 (nI (endsAt b X)) [.val (.sc (.str t)), .val (.sc (.str k.n)), .val (.sc (.str [w.c])), s3, s4, .own (.lst (bL acc)), .val (.sc (.int (b : Int))), s7] =
      some ([.val (.sc (.str t)), .val (.sc (.str k.n)), .val (.sc (.str [w.c])), s3, s4, .own (.lst (bL (acc ++ X.map (word k w)))), s6, s7'], .next) := by
  intro X
  induction X with
  | nil => intro b acc s7 _ _ _ _; exact ⟨_, s7, by simp [forGo, endsAt, nI]; rfl⟩
  | cons x r ih =>
    intro b acc s7 h hb hx hn
    rw [List.flatten_cons] at h
    have h2 := drop_app h
    have hlen := congrArg List.length h
    simp only [List.length_drop, List.length_append, List.length_cons] at hlen hn
    obtain ⟨s6, s7', e⟩ := ih (b + x.length) (acc ++ [word k w x]) (.val (.sc (.int ((b + x.length : Nat) : Int)))) h2 (by omega) (fun y hy => hx y (List.mem_cons_of_mem _ hy)) (by simp; omega)
    refine ⟨s6, s7', ?_⟩
    have e1 : slice (.sc (.str t)) (some (b : Int)) (some ((b + x.length : Nat) : Int)) = some (.sc (.str x)) := by
      rw [sl_nn_str (l := t) (a := b) (b := b + x.length) rfl rfl (by omega) (by omega), h, show b + x.length - b = x.length by omega, List.take_left]
    have hm : ∀ c ∈ x, c ∈ t := fun c hc => List.mem_of_mem_drop (h ▸ List.mem_append_left _ hc)
    have e2 := run_encoded_word n k w (t := x) (fun c hc => ht c (hm c hc)) (fun c hc => hk c (hm c hc)) (by omega) (hx x List.mem_cons_self)
    have e3 : mkL (bL acc ++ [Sc.bytes (word k w x)]) = some (.lst (bL acc ++ [Sc.bytes (word k w x)])) := mkL_ok (by simp [bL]; omega)
    have e4 : bL (acc ++ [word k w x]) = bL acc ++ [Sc.bytes (word k w x)] := by simp [bL]
    have bd : execs (FF (n + 6)) Gl 1000 [.val (.sc (.str t)), .val (.sc (.str k.n)), .val (.sc (.str [w.c])), s3, s4, .own (.lst (bL acc)), .val (.sc (.int (b : Int))), .val (.sc (.int ((b + x.length : Nat) : Int)))] l0_words_of =
        some ([.val (.sc (.str t)), .val (.sc (.str k.n)), .val (.sc (.str [w.c])), s3, s4, .own (.lst (bL (acc ++ [word k w x]))), .val (.sc (.int ((b + x.length : Nat) : Int))), .val (.sc (.int ((b + x.length : Nat) : Int)))], .next) := by
      rw [e4]
      exact vcS [(0, fp e1), (0, fp e2), (0, fp e3)] (by kernel_rfl)
    rw [endsAt, show nI ((b + x.length) :: endsAt (b + x.length) r) = .int ((b + x.length : Nat) : Int) :: nI (endsAt (b + x.length) r) from rfl]
    simp only [forGo, List.set_cons_zero, List.set_cons_succ, bd, Option.bind_some, e]
    simp
theorem iop_mul3 (x : Nat) : iop .mul (x : Int) 3 = some ((x * 3 : Nat) : Int) := iop_mul x 3 (by omega)
theorem iop_fdiv4 (x : Nat) : iop .fdiv (x : Int) 4 = some ((x / 4 : Nat) : Int) := iop_fdiv x 4 (by omega) (by omega)
theorem run_words_of (n : Nat) (k : Cs) (w : Wy) {t : List Nat} (ht : okT t) (hk : hasT k t) (hl : t.length ≤ 700) :
    FF (n + 7) 20 [.sc (.str t), .sc (.str k.n), .sc (.str [w.c]), .sc (.int 75)] = some (.sc (.bytes (words k w t))) := by
  rw [r_words_of]
  have e1 := run_framed (n + 5) k w (o := []) (by simp)
  have e2 : (75 : Int) - ((frame k w []).length : Int) = ((rq k : Nat) : Int) := by rw [frame_len]; have := n_len k; unfold rq; simp; omega
  have e3 := run_sizes (n + 2) k w ht hk (by omega)
  have e4 := run_chunk_ends (n + 5) (sz k w) (rm k w) (sz_le k w) (t := t) (by omega)
  have hf := cuts_flat (sz k w) (rm k w) t [] 0
  have hc := cuts_len (sz k w) (rm k w) t [] 0
  have e5 := fun s3 s4 => loop_words_of n k w t ht hk (by omega) (s3 := s3) (s4 := s4) (cuts (sz k w) (rm k w) [] 0 t) 0 [] .un (by rw [hf]; simp) (by omega) (words_ok k w) (by simp; omega)
  have e7 : toByts (bL (wordsL k w t)) = some (wordsL k w t) := toByts_ok _
  have e8 : mkB (words k w t) = some (.sc (.bytes (words k w t))) := mkB_ok (by have := words_len k w hl; omega)
  have e9 : bL [] = [] := rfl
  simp only [List.nil_append, e9, Int.natCast_zero] at e5
  unfold words at e8 ⊢
  unfold wordsL at e7 e8 ⊢
  induction w with
  | q =>
    obtain ⟨s6, s7', e5⟩ := e5 (.val (.sc (.int 75))) (.val (.sc (.int ((rm k .q : Nat) : Int))))
    have e2 : (75 : Int) - ((frame k .q []).length : Int) = ((rm k .q : Nat) : Int) := e2
    exact vcF [(0, fp e1), (1, fi e2), (1, fp e3), (0, fp e4), (1, fs e5), (0, fp (jb_ok e7 e8))] (by kernel_rfl)
  | b =>
    obtain ⟨s6, s7', e5⟩ := e5 (.val (.sc (.int 75))) (.val (.sc (.int ((rm k .b : Nat) : Int))))
    have e12 := iop_fdiv4 (rq k)
    have e13 : iop .mul ((rq k / 4 : Nat) : Int) 3 = some ((rm k .b : Nat) : Int) := iop_mul3 (rq k / 4)
    exact vcF [(0, fp e1), (1, fi e2), (1, fo e12), (0, fo e13), (0, fp e3), (0, fp e4), (1, fs e5), (0, fp (jb_ok e7 e8))] (by kernel_rfl)
noncomputable def shorter (k : Cs) (t : List Nat) : List Nat := if (words k .b t).length < (words k .q t).length then words k .b t else words k .q t
theorem run_shorter (n : Nat) (k : Cs) {t : List Nat} (ht : okT t) (hk : hasT k t) (hl : t.length ≤ 700) :
    FF (n + 8) 21 [.sc (.str t), .sc (.str k.n), .sc (.int 75)] = some (.sc (.bytes (shorter k t))) := by
  rw [r_shorter_words]
  have e1 := run_words_of n k .q ht hk hl
  have e2 := run_words_of n k .b ht hk hl
  have c1 : [Wy.q.c] = [81] := rfl
  have c2 : [Wy.b.c] = [66] := rfl
  rw [c1] at e1
  rw [c2] at e2
  unfold shorter
  by_cases h : (words k .b t).length < (words k .q t).length
  · have e7 : (((words k .b t).length : Int) < ((words k .q t).length : Int)) = True := eq_true (by omega)
    rw [if_pos h]
    exact vcF [(2, fp e1), (2, fp e2), (8, ft' e7)] (by kernel_rfl)
  · have e7 : (((words k .b t).length : Int) < ((words k .q t).length : Int)) = False := eq_false (by omega)
    rw [if_neg h]
    exact vcF [(2, fp e1), (2, fp e2), (8, ff' e7)] (by kernel_rfl)
end Mine

end
section
set_option Elab.async false
set_option autoImplicit false
set_option maxRecDepth 4000
set_option linter.unusedSimpArgs false
set_option linter.unusedVariables false
namespace Mine
noncomputable def hasB (k : Cs) (t : List Nat) : Bool := t.all k.has
noncomputable def bestK (t : List Nat) : Cs := if hasB .a t then .a else if hasB .l t then .l else .u
theorem best_has (t : List Nat) : hasT (bestK t) t := by
  unfold bestK
  split
  · rename_i h; exact fun c hc => List.all_eq_true.mp h c hc
  · split
    · rename_i h; exact fun c hc => List.all_eq_true.mp h c hc
    · exact fun c _ => rfl
noncomputable def lacks (k : Cs) (t : List Nat) : List Sc := (t.filter fun c => !k.has c).map fun c => .str [c]
theorem lacks_nil (k : Cs) (t : List Nat) : (lacks k t).isEmpty = hasB k t := by
  unfold lacks hasB
  induction t with
  | nil => rfl
  | cons c r ih =>
    rw [List.all_cons, List.filter_cons]
    cases h : k.has c with
    | true => simp only [Bool.not_true, Bool.false_eq_true, if_false, Bool.true_and]; exact ih
    | false => rfl
theorem comp_best (n : Nat) (k : Cs) {t : List Nat} (ht : okT t) (hl : t.length ≤ 10000) (s2 : Slot) : ev (FF (n + 2)) Gl true [.val (.sc (.str t)), .val (.sc (.str k.n)), s2] c0_best_charset = some (.lst (lacks k t)) := by
  refine cmp_of (p := .sc (.str t)) (by exact vcE [] (by kernel_rfl)) (items_str _) (by simp; omega) ?_
  refine cmpF (g := fun c => .str [c]) (fun c hc => ?_) fun c hc _ => ?_
  · have e := run_has n k c (ht c hc)
    cases hh : k.has c with
    | true => rw [hh] at e; exact vcA [(1, fp e)] (by kernel_rfl)
    | false => rw [hh] at e; exact vcA [(1, fp e)] (by kernel_rfl)
  · exact vcC [] (by kernel_rfl)
theorem run_best (n : Nat) {t : List Nat} (ht : okT t) (hl : t.length ≤ 10000) : FF (n + 3) 7 [.sc (.str t)] = some (.sc (.str (bestK t).n)) := by
  rw [r_best_charset]
  have e1 := comp_best n .a ht hl
  have e2 := comp_best n .l ht hl
  have e3 := comp_best n .u ht hl
  have n1 : Cs.a.n = asciiL := rfl
  have n2 : Cs.l.n = latinL := rfl
  have n3 : Cs.u.n = utf8L := rfl
  rw [n1] at e1
  rw [n2] at e2
  rw [n3] at e3
  have h3 : hasB .u t = true := List.all_eq_true.mpr fun c _ => rfl
  unfold bestK
  cases h1 : hasB .a t with
  | true => exact vcF [(1, fw (e1 .un)), (0, fq ((lacks_nil .a t).trans h1))] (by kernel_rfl)
  | false =>
    cases h2 : hasB .l t with
    | true => exact vcF [(1, fw (e1 .un)), (0, fq ((lacks_nil .a t).trans h1)), (0, fw (e2 .un)), (0, fq ((lacks_nil .l t).trans h2))] (by kernel_rfl)
    | false => exact vcF [(1, fw (e1 .un)), (0, fq ((lacks_nil .a t).trans h1)), (0, fw (e2 .un)), (0, fq ((lacks_nil .l t).trans h2)), (0, fw (e3 .un)), (0, fq ((lacks_nil .u t).trans h3))] (by kernel_rfl)

theorem utf_three : ∀ c ∈ signA, c = 233 ∨ c = 8364 ∨ (c < 128 ∧ utf c = [c]) := by decide +kernel
theorem run_u8sign (n : Nat) {l post : List Nat} {k c : Nat} (hc : c ∈ signA) (h : l.drop k = utf c ++ post) (hl : l.length ≤ 60000) :
    FF (n + 2) 35 [.sc (.bytes l), .sc (.int (k : Int))] = some (.tup [.int (c : Int), .int ((utf c).length : Nat)]) := by
  rw [r_utf8_sign]
  rcases utf_three c hc with rfl | rfl | ⟨h1, h2⟩
  · have hu : utf 233 = [195, 169] := rfl
    rw [hu] at h ⊢
    obtain ⟨h1, h2, h3⟩ := drop_cons h
    obtain ⟨g1, g2, g3⟩ := drop_cons h2
    have e1 := idx_bytes (i := (k : Int)) h1 (by omega) rfl
    have e2 := idx_bytes (i := ((k + 1 : Nat) : Int)) g1 (by omega) rfl
    have e7 : ((l.length : Int) ≤ ((k + 1 : Nat) : Int)) = False := eq_false (by omega)
    exact vcF [(0, fp e1), (10, ff' e7), (1, fp e2), (4, fp e2)] (by kernel_rfl)
  · have hu : utf 8364 = [226, 130, 172] := rfl
    rw [hu] at h ⊢
    obtain ⟨h1, h2, h3⟩ := drop_cons h
    obtain ⟨g1, g2, g3⟩ := drop_cons h2
    obtain ⟨k1, k2, k3⟩ := drop_cons g2
    have e1 := idx_bytes (i := (k : Int)) h1 (by omega) rfl
    have e2 := idx_bytes (i := ((k + 1 : Nat) : Int)) g1 (by omega) rfl
    have e2' := idx_bytes (i := ((k + 2 : Nat) : Int)) k1 (by omega) rfl
    have e7 : ((l.length : Int) ≤ ((k + 1 : Nat) : Int)) = False := eq_false (by omega)
    have e7' : ((l.length : Int) ≤ ((k + 2 : Nat) : Int)) = False := eq_false (by omega)
    exact vcF [(0, fp e1), (10, ff' e7), (1, fp e2), (4, fp e2), (4, ff' e7'), (1, fp e2'), (4, fp e2')] (by kernel_rfl)
  · rw [h2] at h ⊢
    obtain ⟨g1, g2, g3⟩ := drop_cons h
    have e1 := idx_bytes (i := (k : Int)) g1 (by omega) rfl
    have e2 : ((c : Int) < 128) = True := eq_true (by omega)
    exact vcF [(0, fp e1), (0, ft' e2)] (by kernel_rfl)
theorem run_sign_at (n : Nat) {l post : List Nat} {i c : Nat} (k : Cs) (hc : c ∈ signA) (hk : k.has c = true) (h : l.drop i = oct k c ++ post) (hl : l.length ≤ 60000) :
    FF (n + 3) 36 [.sc (.str k.n), .sc (.bytes l), .sc (.int (i : Int))] = some (.tup [.int (c : Int), .int ((oct k c).length : Nat)]) := by
  rw [r_sign_at]
  induction k with
  | u =>
    have e1 := run_u8sign n hc h hl
    exact vcF [(1, fp e1)] (by kernel_rfl)
  | a =>
    obtain ⟨g1, g2, g3⟩ := drop_cons (c := c) h
    have e1 := idx_bytes (i := (i : Int)) g1 (by omega) rfl
    have hk : c < 128 := by simpa [Cs.has] using hk
    have e3 : ((127 : Int) < (c : Int)) = False := eq_false (by omega)
    exact vcF [(2, fp e1), (0, ff' e3), (0, fp e1)] (by kernel_rfl)
  | l =>
    obtain ⟨g1, g2, g3⟩ := drop_cons (c := c) h
    have e1 := idx_bytes (i := (i : Int)) g1 (by omega) rfl
    exact vcF [(2, fp e1)] (by kernel_rfl)
noncomputable def sL (t : List Nat) : List Sc := t.map fun c => .str [c]
theorem A_lt : ∀ c ∈ signA, c < 1114112 := by decide +kernel
theorem loop_text_in (n : Nat) (k : Cs) (l : List Nat) (hl : l.length ≤ 60000) : ∀ (r : List Nat) (i : Nat) (acc : List Nat) (s4 s5 : Slot) (fuel : Nat), l.drop i = r.flatMap (oct k) → i ≤ l.length → okT r → hasT k r → acc.length + r.length ≤ 60000 → r.length < fuel →
    ∃ s3 s4' s5', whileGo (fun ρ => tst (FF (n + 3)) Gl ρ t0_text_in) (fun ρ => execs (FF (n + 3)) Gl 1000 ρ l0_text_in) fuel [.val (.sc (.str k.n)), .val (.sc (.bytes l)), .own (.lst (sL acc)), .val (.sc (.int (i : Int))), s4, s5] =
      some ([.val (.sc (.str k.n)), .val (.sc (.bytes l)), .own (.lst (sL (acc ++ r))), s3, s4', s5'], .next) := by
  intro r
  induction r with
  | nil =>
    intro i acc s4 s5 fuel h hi _ _ _ hf
    have hi := drop_nil h hi
    subst hi
    rcases fuel with _ | fuel
    ·
      omega
    ·
      refine ⟨.val (.sc (.int (l.length : Int))), s4, s5, ?_⟩
      have e1 : ((l.length : Int) < (l.length : Int)) = False := eq_false (by omega)
      rw [List.append_nil]
      exact w_end (by exact vcT [(1, ff' e1)] (by kernel_rfl))
  | cons c r ih =>
    intro i acc s4 s5 fuel h hi ht hk hn hf
    have hc := ht c List.mem_cons_self
    have hkc := hk c List.mem_cons_self
    simp only [List.length_cons] at hn hf
    rcases fuel with _ | fuel
    ·
      omega
    ·
      rw [List.flatMap_cons] at h
      have h2 := drop_app h
      have hpos : 0 < (oct k c).length := by
        cases k <;> simp [oct, utf]
        split
        · simp
        · split <;> simp
      have hlen := congrArg List.length h
      simp only [List.length_drop, List.length_append] at hlen
      obtain ⟨s3, s4', s5', e⟩ := ih (i + (oct k c).length) (acc ++ [c]) (.val (.sc (.int (c : Int)))) (.val (.sc (.int ((oct k c).length : Nat)))) fuel h2 (by omega) (fun d hd => ht d (List.mem_cons_of_mem _ hd)) (fun d hd => hk d (List.mem_cons_of_mem _ hd)) (by simp; omega) (by omega)
      refine ⟨s3, s4', s5', ?_⟩
      have e1 : ((i : Int) < (l.length : Int)) = True := eq_true (by omega)
      have e2 := run_sign_at n k hc hkc h hl
      have e3 : ((0 : Int) ≤ (c : Int)) = True := eq_true (by omega)
      have e4 : biF .chr [.sc (.int (c : Int))] = some (.sc (.str [c])) := by
        have := A_lt c hc
        rw [bi_chr, if_pos (by omega)]; rfl
      have e5 : mkL (sL acc ++ [Sc.str [c]]) = some (.lst (sL acc ++ [Sc.str [c]])) := mkL_ok (by simp [sL]; omega)
      have e6 : sL (acc ++ [c]) = sL acc ++ [Sc.str [c]] := by simp [sL]
      have t : tst (FF (n + 3)) Gl [.val (.sc (.str k.n)), .val (.sc (.bytes l)), .own (.lst (sL acc)), .val (.sc (.int (i : Int))), s4, s5] t0_text_in = some true := by
        exact vcT [(1, ft' e1)] (by kernel_rfl)
      have b : execs (FF (n + 3)) Gl 1000 [.val (.sc (.str k.n)), .val (.sc (.bytes l)), .own (.lst (sL acc)), .val (.sc (.int (i : Int))), s4, s5] l0_text_in =
          some ([.val (.sc (.str k.n)), .val (.sc (.bytes l)), .own (.lst (sL (acc ++ [c]))), .val (.sc (.int ((i + (oct k c).length : Nat) : Int))), .val (.sc (.int (c : Int))), .val (.sc (.int ((oct k c).length : Nat)))], .next) := by
        rw [e6]
        exact vcS [(0, fp e2), (0, ft' e3), (0, fp e4), (0, fp e5)] (by kernel_rfl)
      rw [List.append_assoc] at e
      exact w_next t b e
theorem joinS (t : List Nat) : toStrs (sL t) = some (t.map fun c => [c]) := by
  unfold sL
  have := toStrs_ok (t.map fun c => [c])
  rw [List.map_map] at this
  exact this
theorem joinS_flat (t : List Nat) : joinL [] (t.map fun c => [c]) = t := by
  rw [joinL_nil]
  induction t with
  | nil => rfl
  | cons c r ih => simp only [List.map_cons, List.flatten_cons, ih, List.singleton_append]
theorem run_text_in (n : Nat) (k : Cs) {t : List Nat} (ht : okT t) (hk : hasT k t) (hl : t.length < 900) : FF (n + 4) 37 [.sc (.str k.n), .sc (.bytes (t.flatMap (oct k)))] = some (.sc (.str t)) := by
  rw [r_text_in]
  have hf := flat_len k t
  have e1 := run_need (n + 2) k
  obtain ⟨s3, s4, s5, e2⟩ := loop_text_in n k (t.flatMap (oct k)) (by omega) t 0 [] .un .un 1000 rfl (by omega) ht hk (by simp; omega) (by omega)
  have e3 : sL [] = [] := rfl
  have e4 := joinS t
  have e5 := joinS_flat t
  have e6 : mkS t = some (.sc (.str t)) := mkS_ok (by omega)
  simp only [List.nil_append, e3, Int.natCast_zero] at e2
  exact vcF [(0, fp e1), (0, fs e2), (0, fp (js_ok e4 (by rw [e5]; exact e6)))] (by kernel_rfl)
theorem run_guess (n : Nat) : FF (n + 4) 39 [.sc (.bytes [])] = some (.sc (.str [])) := by kernel_rfl
end Mine

end
section
set_option Elab.async false
set_option autoImplicit false
set_option maxRecDepth 4000
set_option linter.unusedSimpArgs false
set_option linter.unusedVariables false
namespace Mine
theorem idx_last_nI {l : List Nat} {c : Nat} (h : l.getLast? = some c) (hl : l.length ≤ 65536) : index (.lst (nI l)) (.sc (.int (-1))) = some (.sc (.int (c : Int))) := by
  refine idx_last ?_ (by simpa [nI] using hl)
  simp [nI, h]
theorem neg_false (k : Nat) : ((k : Int) < 0) = False := eq_false (by omega)
theorem turn_parts (n : Nat) {l p post : List Nat} {at0 : Slot} {s3 s4 s5 s6 : Slot} {ms : List Nat} {m : Nat} (hm : ms.getLast? = some m) (hms : ms.length ≤ 10) (h : l.drop (m + 1) = p ++ 63 :: post) (ha : ∀ c ∈ p, isWS c = true) (hp : p.length < 900) (hl : l.length ≤ 60000) :
    execs (FF (n + 2)) Gl 1000 [.val (.sc (.bytes l)), at0, .own (.lst (nI ms)), s3, s4, s5, s6] l0_word_parts =
      some ([.val (.sc (.bytes l)), at0, .own (.lst (nI (ms ++ [m + 1 + p.length]))), s3, s4, s5, s6], .next) := by
  have e1 := idx_last_nI hm (by omega)
  have e2 := run_part_end n (k := m + 1) rfl h ha hp hl
  have e3 : mkL (nI ms ++ [Sc.int ((m + 1 + p.length : Nat) : Int)]) = some (.lst (nI (ms ++ [m + 1 + p.length]))) := by
    rw [nI_app]; exact mkL_ok (by simp [nI]; omega)
  have e4 : index (.lst (nI (ms ++ [m + 1 + p.length]))) (.sc (.int (-1))) = some (.sc (.int ((m + 1 + p.length : Nat) : Int))) := idx_last_nI (by simp) (by simp; omega)
  have e5 := neg_false (m + 1 + p.length)
  exact vcS [(0, fp e1), (1, fp e2), (0, fp e3), (0, fp e4), (0, ff' e5)] (by kernel_rfl)
theorem run_word_parts (n : Nat) {l a b p post : List Nat} {i : Nat} (h : l.drop i = [61, 63] ++ a ++ [63] ++ b ++ [63] ++ p ++ [63, 61] ++ post) (ha : ∀ c ∈ a, isWS c = true) (hb : ∀ c ∈ b, isWS c = true) (hp : ∀ c ∈ p, isWS c = true)
    (la : a.length < 900) (lb : b.length < 900) (lp : p.length < 900) (hl : l.length ≤ 50000) :
    FF (n + 3) 42 [.sc (.bytes l), .sc (.int (i : Int))] = some (.tup [.bytes a, .bytes b, .bytes p, .int ((i + a.length + b.length + p.length + 6 : Nat) : Int)]) := by
  rw [r_word_parts]
  have hlen := congrArg List.length h
  simp only [List.length_drop, List.length_append, List.length_cons, List.length_nil] at hlen
  have h1 : l.drop (i + 1 + 1) = a ++ 63 :: (b ++ [63] ++ p ++ [63, 61] ++ post) := by
    have := drop_app (p := [61, 63]) (r := a ++ [63] ++ b ++ [63] ++ p ++ [63, 61] ++ post) (by rw [h]; simp)
    simpa [Nat.add_assoc] using this
  have h2 : l.drop ((i + 1 + 1 + a.length) + 1) = b ++ 63 :: (p ++ [63, 61] ++ post) := by
    have := (drop_cons (drop_app h1)).2.1
    rw [this]; simp
  have h3 : l.drop ((i + 1 + 1 + a.length + 1 + b.length) + 1) = p ++ 63 :: (61 :: post) := by
    have := (drop_cons (drop_app h2)).2.1
    rw [this]; simp
  have h4 := drop_app h3
  have t1 := fun s3 s4 s5 s6 => turn_parts n (at0 := .val (.sc (.int (i : Int)))) (s3 := s3) (s4 := s4) (s5 := s5) (s6 := s6) (ms := [i + 1]) (m := i + 1) rfl (by simp) h1 ha la (by omega)
  have t2 := fun s3 s4 s5 s6 => turn_parts n (at0 := .val (.sc (.int (i : Int)))) (s3 := s3) (s4 := s4) (s5 := s5) (s6 := s6) (ms := [i + 1, i + 1 + 1 + a.length]) (m := i + 1 + 1 + a.length) rfl (by simp) h2 hb lb (by omega)
  have t3 := fun s3 s4 s5 s6 => turn_parts n (at0 := .val (.sc (.int (i : Int)))) (s3 := s3) (s4 := s4) (s5 := s5) (s6 := s6) (ms := [i + 1, i + 1 + 1 + a.length, i + 1 + 1 + a.length + 1 + b.length]) (m := i + 1 + 1 + a.length + 1 + b.length) rfl (by simp) h3 hp lp (by omega)
  simp only [List.cons_append, List.nil_append] at t1 t2 t3
  have e1 := sl_nn_bytes (l := l) (a := i) (b := i + 2) rfl rfl (by omega) (by omega)
  rw [show i + 2 - i = 2 by omega, h, show List.take 2 ([61, 63] ++ a ++ [63] ++ b ++ [63] ++ p ++ [63, 61] ++ post) = [61, 63] by simp] at e1
  have e2 : nI [i + 1] = [.int ((i + 1 : Nat) : Int)] := rfl
  generalize hm1 : i + 1 + 1 + a.length = m1 at *
  generalize hm2 : m1 + 1 + b.length = m2 at *
  generalize hm3 : m2 + 1 + p.length = m3 at *
  have i0 : index (.lst (nI [i + 1, m1, m2, m3])) (.sc (.int 0)) = some (.sc (.int ((i + 1 : Nat) : Int))) := idx_nI (k := 0) rfl (by simp)
  have i1 : index (.lst (nI [i + 1, m1, m2, m3])) (.sc (.int 1)) = some (.sc (.int ((m1 : Nat) : Int))) := idx_nI (k := 1) rfl (by simp)
  have i2 : index (.lst (nI [i + 1, m1, m2, m3])) (.sc (.int 2)) = some (.sc (.int ((m2 : Nat) : Int))) := idx_nI (k := 2) rfl (by simp)
  have i3 : index (.lst (nI [i + 1, m1, m2, m3])) (.sc (.int 3)) = some (.sc (.int ((m3 : Nat) : Int))) := idx_nI (k := 3) rfl (by simp)
  have e3 := sl_nn_bytes (l := l) (a := m3) (b := m3 + 2) rfl rfl (by omega) (by omega)
  rw [show m3 + 2 - m3 = 2 by omega, h4, show List.take 2 (63 :: 61 :: post) = [63, 61] from rfl] at e3
  have e4 := sl_nn_bytes (l := l) (a := i + 1 + 1) (b := m1) rfl rfl (by omega) (by omega)
  rw [h1, show m1 - (i + 1 + 1) = a.length by omega, List.take_left] at e4
  have e5 := sl_nn_bytes (l := l) (a := m1 + 1) (b := m2) rfl rfl (by omega) (by omega)
  rw [h2, show m2 - (m1 + 1) = b.length by omega, List.take_left] at e5
  have e6 := sl_nn_bytes (l := l) (a := m2 + 1) (b := m3) rfl rfl (by omega) (by omega)
  rw [h3, show m3 - (m2 + 1) = p.length by omega, List.take_left] at e6
  have e7 : ∀ s3 s5 s6 : Slot, ev (FF (n + 2)) Gl false [.val (.sc (.bytes l)), .val (.sc (.int (i : Int))), .own (.lst (nI [i + 1, m1, m2, m3])), s3, .val (.sc (.int ((m3 + 2 : Nat) : Int))), s5, s6] c0_word_parts = some (.lst [.bytes a, .bytes b, .bytes p]) := by
    intro s3 s5 s6
    exact vcE [(2, fp i0), (2, fp i1), (0, fp e4), (0, fp i1), (2, fp i2), (0, fp e5), (0, fp i2), (2, fp i3), (0, fp e6)] (by kernel_rfl)
  rw [show i + a.length + b.length + p.length + 6 = m3 + 2 by omega]
  rw [e2] at t1
  have f : forGo (fun ρ => execs (FF (n + 2)) Gl 1000 ρ l0_word_parts) 3 [.int 0, .int 1, .int 2] [.val (.sc (.bytes l)), .val (.sc (.int (i : Int))), .own (.lst [.int ((i + 1 : Nat) : Int)]), .un, .un, .un, .un] =
      some ([.val (.sc (.bytes l)), .val (.sc (.int (i : Int))), .own (.lst (nI [i + 1, m1, m2, m3])), .val (.sc (.int 2)), .un, .un, .un], .next) :=
    f_next (t1 (.val (.sc (.int 0))) .un .un .un) (f_next (t2 (.val (.sc (.int 1))) .un .un .un) (f_next (t3 (.val (.sc (.int 2))) .un .un .un) rfl))
  exact vcF [(1, fp e1), (4, fs f), (0, fp i3), (1, fp i3), (0, fp e3), (1, fw (e7 (.val (.sc (.int 2))) .un .un))] (by kernel_rfl)
theorem run_is_apart (n : Nat) {l : List Nat} {b e : Nat} (h1 : b = 0 ∨ l[b - 1]? = some 32) (h2 : e = l.length ∨ l[e]? = some 32) (hl : l.length ≤ 60000) :
    FF (n + 1) 43 [.sc (.bytes l), .sc (.int (b : Int)), .sc (.int (e : Int))] = some (.sc (.bool true)) := by
  rw [r_is_apart]
  by_cases he : e = l.length
  · have e1 : ((e : Int) == (l.length : Int)) = true := by rw [int_beq]; simpa using he
    by_cases hb : b = 0
    · subst hb
      exact vcF [(2, fq e1)] (by kernel_rfl)
    · have e3 : ((0 : Int) < (b : Int)) = True := eq_true (by omega)
      have e4 := idx_bytes (i := (b : Int) - 1) (h1.resolve_left hb) (by omega) (by omega)
      exact vcF [(0, ft' e3), (1, fp e4), (2, fq e1)] (by kernel_rfl)
  · have e1 : ((e : Int) == (l.length : Int)) = false := by rw [int_beq]; simpa using he
    have e2 := idx_bytes (i := (e : Int)) (h2.resolve_left he) (by omega) rfl
    by_cases hb : b = 0
    · subst hb
      exact vcF [(2, fq e1), (0, fp e2)] (by kernel_rfl)
    · have e3 : ((0 : Int) < (b : Int)) = True := eq_true (by omega)
      have e4 := idx_bytes (i := (b : Int) - 1) (h1.resolve_left hb) (by omega) (by omega)
      exact vcF [(0, ft' e3), (1, fp e4), (2, fq e1), (0, fp e2)] (by kernel_rfl)
end Mine

end
section
set_option Elab.async false
set_option autoImplicit false
set_option maxRecDepth 4000
set_option linter.unusedSimpArgs false
set_option linter.unusedVariables false
namespace Mine
theorem run_plain_n (n : Nat) (k : Cs) : FF (n + 1) 44 [.sc (.bytes k.n)] = some (.sc (.str k.n)) := by cases k <;> kernel_rfl
theorem run_plain_w (n : Nat) (w : Wy) : FF (n + 1) 44 [.sc (.bytes [w.c])] = some (.sc (.str [w.c])) := by cases w <;> kernel_rfl
theorem run_charset_name (n : Nat) (k : Cs) : FF (n + 3) 26 [.sc (.str k.n)] = some (.sc (.str k.n)) := by cases k <;> kernel_rfl
theorem n_ws (k : Cs) : ∀ c ∈ k.n, isWS c = true := by cases k <;> decide
theorem w_ws (w : Wy) : ∀ c ∈ [w.c], isWS c = true := by cases w <;> decide
theorem qe_ws : ∀ c ∈ octB, ∀ x ∈ qe c, isWS x = true := by decide +kernel
theorem sgn_ws (i : Nat) (h : i < 64) : isWS (sgn i) = true := by
  have : ∀ i ∈ List.range 64, isWS (sgn i) = true := by decide +kernel
  exact this i (List.mem_range.mpr h)
theorem pay_ws (w : Wy) {o : List Nat} (hB : ∀ x ∈ o, x ∈ octB) : ∀ c ∈ pay w o, isWS c = true := by
  intro c hc
  induction w with
  | q =>
    obtain ⟨x, hx, hc⟩ := List.mem_flatMap.mp hc
    exact qe_ws x (hB x hx) c hc
  | b =>
    simp only [pay, b64, List.mem_append] at hc
    rcases hc with hc | hc
    · obtain ⟨x, hx, rfl⟩ := List.mem_map.mp hc
      exact sgn_ws x (gns_lt o x hx)
    · rw [List.eq_of_mem_replicate hc]; decide
theorem oct_pos (k : Cs) (c : Nat) : 0 < (oct k c).length := by
  cases k <;> simp [oct, utf]
  split
  · simp
  · split <;> simp
theorem qe_pos (c : Nat) : 0 < (qe c).length := by
  unfold qe
  split
  · simp
  · split <;> simp [hx]
theorem le_oct (k : Cs) : ∀ t : List Nat, t.length ≤ (t.flatMap (oct k)).length
  | [] => by simp
  | c :: r => by
    have := le_oct k r; have := oct_pos k c
    rw [List.flatMap_cons, List.length_append, List.length_cons]; omega
theorem le_qe : ∀ t : List Nat, t.length ≤ (t.flatMap qe).length
  | [] => by simp
  | c :: r => by
    have := le_qe r; have := qe_pos c
    rw [List.flatMap_cons, List.length_append, List.length_cons]; omega
theorem run_word_at (n : Nat) (k : Cs) (w : Wy) {l t post : List Nat} {i : Nat} (ht : okT t) (hk : hasT k t) (hw : (word k w t).length ≤ 75) (h : l.drop i = word k w t ++ post) (h1 : i = 0 ∨ l[i - 1]? = some 32) (h2 : post = [] ∨ post.head? = some 32) (hl : l.length ≤ 50000) :
    FF (n + 5) 45 [.sc (.bytes l), .sc (.int (i : Int))] = some (.tup [.str t, .int ((i + (word k w t).length : Nat) : Int)]) := by
  rw [r_word_at]
  have hB := oct_all k ht hk
  have hn := n_len k
  have hfl : (word k w t).length = k.n.length + 7 + (pay w (t.flatMap (oct k))).length := frame_len k w _
  have hpl : (pay w (t.flatMap (oct k))).length ≤ 75 := by omega
  have hdl := congrArg List.length h
  simp only [List.length_drop, List.length_append] at hdl
  have hol : (t.flatMap (oct k)).length ≤ 75 ∧ t.length ≤ 75 := by
    have hx1 := le_oct k t
    have hy : (t.flatMap (oct k)).length ≤ (pay w (t.flatMap (oct k))).length := by
      induction w with
      | q => exact le_qe _
      | b => simp only [pay, b64_len]; omega
    omega
  have e1 := run_word_parts (n + 1) (l := l) (a := k.n) (b := [w.c]) (p := pay w (t.flatMap (oct k))) (post := post) (i := i) (by rw [h]; unfold word frame; simp) (n_ws k) (w_ws w) (pay_ws w hB) (by omega) (by simp) (by omega) hl
  rw [show i + k.n.length + [w.c].length + (pay w (t.flatMap (oct k))).length + 6 = i + (word k w t).length by rw [hfl]; simp; omega] at e1
  have hE : i + (word k w t).length = l.length ∨ l[i + (word k w t).length]? = some 32 := by
    rcases h2 with rfl | h2
    · left; simp at hdl; by_cases hi : i ≤ l.length
      · omega
      · rw [List.drop_of_length_le (by omega)] at h
        have := congrArg List.length h
        simp at this
        rw [hfl] at this; omega
    · right
      have := drop_app h
      rcases post with _ | ⟨c, r⟩
      ·
        cases h2
      ·
        simp only [List.head?_cons, Option.some.injEq] at h2
        subst h2
        exact (drop_cons this).1
  have e2 := run_is_apart (n + 3) (l := l) h1 hE (by omega)
  have e3 := run_plain_n (n + 3) k
  have e4 := run_plain_w (n + 3) w
  have e5 := run_charset_name (n + 1) k
  have e6 := run_text_in n k ht hk (by omega)
  have c1 : meF .split (.sc (.str k.n)) [.sc (.str [42])] = some (.lst [.str k.n]) := by cases k <;> rfl
  have c2 : (k.n == []) = false := by cases k <;> decide
  unfold word at e1 e2 ⊢
  induction w with
  | q =>
    have e7 := run_qdec n (r := t.flatMap (oct k)) hB (by omega)
    have pq : pay .q (t.flatMap (oct k)) = (t.flatMap (oct k)).flatMap qe := rfl
    rw [pq] at e1 e2 ⊢
    exact vcF [(0, fp e1), (2, fp e2), (1, fp e3), (0, fp c1), (1, fp e5), (1, fp e4), (1, fq c2), (3, fp e7), (0, fp e6)] (by kernel_rfl)
  | b =>
    have e7 := run_decoded (n + 2) (l := t.flatMap (oct k)) (by omega) fun x hx => B_lt x (hB x hx)
    have pb : pay .b (t.flatMap (oct k)) = b64 (t.flatMap (oct k)) := rfl
    rw [pb] at e1 e2 ⊢
    exact vcF [(0, fp e1), (2, fp e2), (1, fp e3), (0, fp c1), (1, fp e5), (1, fp e4), (1, fq c2), (3, fp e7), (0, fp e6)] (by kernel_rfl)
end Mine

end
section
set_option Elab.async false
set_option autoImplicit false
set_option maxRecDepth 4000
set_option linter.unusedSimpArgs false
set_option linter.unusedVariables false
namespace Mine
noncomputable def PL : List (List Sc) → PV
  | [] => .lst []
  | x :: r => .lstT (x :: r)
theorem grow_PL {acc : List (List Sc)} {t : List Sc} (h : acc.length ≤ 60000) : grow (PL acc) (.tup t) = some (PL (acc ++ [t])) := by
  rcases acc with _ | ⟨x, r⟩
  ·
    rfl
  ·
    exact mkLT_ok (by simp at h ⊢; omega)
noncomputable def tailW (k : Cs) (w : Wy) (X : List (List Nat)) : List Nat := X.flatMap fun x => [32] ++ word k w x
noncomputable def pcs : List Nat → List (List Nat) → List (List Sc)
  | _, [] => []
  | g, x :: r => [.bool false, .bytes g] :: [.bool true, .str x] :: pcs [32] r
theorem word_ne (k : Cs) (w : Wy) (x : List Nat) : ∃ r, word k w x = 61 :: r := ⟨_, rfl⟩
theorem words_join (k : Cs) (w : Wy) (x : List Nat) (X : List (List Nat)) : joinL [32] ((x :: X).map (word k w)) = word k w x ++ tailW k w X := by
  rw [List.map_cons, joinL_eq]
  unfold tailW
  rw [List.flatMap_map]
theorem turn_word (n : Nat) (k : Cs) (w : Wy) {l x post : List Nat} {i b : Nat} {acc : List (List Sc)} {g : List Nat} {s4 : Slot} (ht : okT x) (hk : hasT k x) (hw : (word k w x).length ≤ 75) (h : l.drop i = word k w x ++ post) (h1 : i = 0 ∨ l[i - 1]? = some 32) (h2 : post = [] ∨ post.head? = some 32) (hl : l.length ≤ 50000)
    (hg : (l.drop b).take (i - b) = g) (hb : b ≤ i) (ha : acc.length ≤ 50000) :
    execs (FF (n + 5)) Gl 1000 [.val (.sc (.bytes l)), .own (PL acc), .val (.sc (.int (b : Int))), .val (.sc (.int (i : Int))), s4] l0_pieces_of =
      some ([.val (.sc (.bytes l)), .own (PL (acc ++ [[.bool false, .bytes g]] ++ [[.bool true, .str x]])), .val (.sc (.int ((i + (word k w x).length : Nat) : Int))), .val (.sc (.int ((i + (word k w x).length : Nat) : Int))), .val (.tup [.str x, .int ((i + (word k w x).length : Nat) : Int)])], .next) ∧ i < l.length := by
  obtain ⟨r, hr⟩ := word_ne k w x
  obtain ⟨d1, d2, d3⟩ := drop_cons (c := 61) (r := r ++ post) (by rw [h, hr]; rfl)
  refine ⟨?_, d3⟩
  have e1 := idx_bytes (i := (i : Int)) d1 (by omega) rfl
  have e3 := run_word_at n k w ht hk hw h h1 h2 hl
  have e4 := sl_nn_bytes (l := l) (a := b) (b := i) rfl rfl (by omega) (by omega)
  rw [hg] at e4
  have e5 := grow_PL (acc := acc) (t := [.bool false, .bytes g]) (by omega)
  have e6 := grow_PL (acc := acc ++ [[.bool false, .bytes g]]) (t := [.bool true, .str x]) (by simp; omega)
  exact vcS [(0, fp e1), (1, fp e3), (1, fp e4), (0, fp e5), (1, fp e6)] (by kernel_rfl)
theorem turn_blank (n : Nat) {l : List Nat} {i : Nat} {s1 s2 s4 : Slot} (h : l[i]? = some 32) (hl : l.length ≤ 50000) :
    execs (FF (n + 5)) Gl 1000 [.val (.sc (.bytes l)), s1, s2, .val (.sc (.int (i : Int))), s4] l0_pieces_of =
      some ([.val (.sc (.bytes l)), s1, s2, .val (.sc (.int ((i + 1 : Nat) : Int))), .val (.sc .none)], .next) := by
  have e1 := idx_bytes (i := (i : Int)) h (by omega) rfl
  exact vcS [(0, fp e1)] (by kernel_rfl)
theorem tst_pieces (F : Fns) {l : List Nat} {i : Nat} {s1 s2 s4 : Slot} : tst F Gl [.val (.sc (.bytes l)), s1, s2, .val (.sc (.int (i : Int))), s4] t0_pieces_of = some (decide (i < l.length)) := by
  have : decide ((i : Int) < (l.length : Int)) = decide (i < l.length) := decide_eq_decide.mpr (by omega (splitDisjunctions := true))
  exact vcT [(1, fq this)] (by kernel_rfl)
theorem loop_pieces (n : Nat) (k : Cs) (w : Wy) (l : List Nat) (hl : l.length ≤ 50000) : ∀ (X : List (List Nat)) (x : List Nat) (i b : Nat) (acc : List (List Sc)) (g : List Nat) (s4 : Slot) (fuel : Nat), l.drop i = word k w x ++ tailW k w X → (∀ y ∈ x :: X, okT y ∧ hasT k y ∧ (word k w y).length ≤ 75) →
    (i = 0 ∨ l[i - 1]? = some 32) → (l.drop b).take (i - b) = g → b ≤ i → acc.length + 2 * (x :: X).length ≤ 50000 → 2 * (x :: X).length < fuel →
    ∃ s4', whileGo (fun ρ => tst (FF (n + 5)) Gl ρ t0_pieces_of) (fun ρ => execs (FF (n + 5)) Gl 1000 ρ l0_pieces_of) fuel [.val (.sc (.bytes l)), .own (PL acc), .val (.sc (.int (b : Int))), .val (.sc (.int (i : Int))), s4] =
      some ([.val (.sc (.bytes l)), .own (PL (acc ++ pcs g (x :: X))), .val (.sc (.int (l.length : Int))), .val (.sc (.int (l.length : Int))), s4'], .next) := by
  intro X
  induction X with
  | nil =>
    intro x i b acc g s4 fuel h hX h1 hg hb hn hf
    obtain ⟨o1, o2, o3⟩ := hX x (by simp)
    simp only [List.length_cons, List.length_nil] at hn hf
    obtain ⟨t, hlt⟩ := turn_word n k w (s4 := s4) o1 o2 o3 h h1 (.inl rfl) hl hg hb (acc := acc) (by omega)
    have hlen := congrArg List.length h
    simp [tailW] at hlen
    have hE : i + (word k w x).length = l.length := by omega
    rw [hE] at t
    refine ⟨.val (.tup [.str x, .int (l.length : Int)]), ?_⟩
    obtain ⟨fuel, rfl⟩ : ∃ f, fuel = f + 2 := ⟨fuel - 2, by omega⟩
    rw [show fuel + 2 = fuel + 1 + 1 from rfl]
    rw [List.append_assoc] at t
    exact w_next ((tst_pieces _).trans (congrArg some (decide_eq_true hlt))) t (w_end ((tst_pieces _).trans (congrArg some (decide_eq_false (Nat.lt_irrefl _)))))
  | cons y r ih =>
    intro x i b acc g s4 fuel h hX h1 hg hb hn hf
    obtain ⟨o1, o2, o3⟩ := hX x (by simp)
    simp only [List.length_cons] at hn hf
    have htl : tailW k w (y :: r) = 32 :: (word k w y ++ tailW k w r) := by simp [tailW]
    obtain ⟨t, hlt⟩ := turn_word n k w (s4 := s4) o1 o2 o3 h h1 (.inr (by rw [htl]; rfl)) hl hg hb (acc := acc) (by omega)
    rw [htl] at h
    have hd := drop_app h
    obtain ⟨d1, d2, d3⟩ := drop_cons hd
    generalize hE : i + (word k w x).length = e at *
    obtain ⟨s4', ihe⟩ := ih y (e + 1) e (acc ++ [[.bool false, .bytes g]] ++ [[.bool true, .str x]]) [32] (.val (.sc .none)) (fuel - 2) d2 (fun z hz => hX z (List.mem_cons_of_mem _ hz)) (.inr (by simpa using d1)) (by rw [hd, show e + 1 - e = 1 by omega]; rfl) (by omega) (by simp; omega) (by simp; omega)
    refine ⟨s4', ?_⟩
    obtain ⟨fuel, rfl⟩ : ∃ f, fuel = f + 2 := ⟨fuel - 2, by omega⟩
    rw [show fuel + 2 - 2 = fuel by omega] at ihe
    have tb := turn_blank n (s1 := .own (PL (acc ++ [[.bool false, .bytes g]] ++ [[.bool true, .str x]]))) (s2 := .val (.sc (.int (e : Int)))) (s4 := .val (.tup [.str x, .int (e : Int)])) d1 hl
    rw [show fuel + 2 = fuel + 1 + 1 from rfl]
    have q1 := (tst_pieces (FF (n + 5)) (l := l) (i := i) (s1 := .own (PL acc)) (s2 := .val (.sc (.int (b : Int)))) (s4 := s4)).trans (congrArg some (decide_eq_true hlt))
    have q2 := (tst_pieces (FF (n + 5)) (l := l) (i := e) (s1 := .own (PL (acc ++ [[.bool false, .bytes g]] ++ [[.bool true, .str x]]))) (s2 := .val (.sc (.int (e : Int)))) (s4 := .val (.tup [.str x, .int (e : Int)]))).trans (congrArg some (decide_eq_true d3))
    refine w_next q1 t (w_next q2 tb (ihe.trans ?_))
    rw [List.append_assoc, List.append_assoc]; rfl
noncomputable def allP (X : List (List Nat)) : List (List Sc) := pcs [] X ++ [[.bool false, .bytes []]]
theorem pcs_len : ∀ (X : List (List Nat)) (g : List Nat), (pcs g X).length = 2 * X.length
  | [], _ => rfl
  | x :: r, g => by simp [pcs, pcs_len r]; omega
theorem run_pieces (n : Nat) (k : Cs) (w : Wy) {X : List (List Nat)} (hne : X ≠ []) (hX : ∀ y ∈ X, okT y ∧ hasT k y ∧ (word k w y).length ≤ 75) (hn : X.length ≤ 400) (hl : (joinL [32] (X.map (word k w))).length ≤ 50000) :
    FF (n + 6) 46 [.sc (.bytes (joinL [32] (X.map (word k w))))] = some (.lstT (allP X)) := by
  rw [r_pieces_of]
  obtain ⟨x, X', rfl⟩ : ∃ x X', X = x :: X' := by
    rcases X with _ | ⟨x, r⟩
    ·
      exact (hne rfl).elim
    ·
      exact ⟨x, r, rfl⟩
  rw [words_join] at hl ⊢
  obtain ⟨s4', e1⟩ := loop_pieces n k w (word k w x ++ tailW k w X') hl X' x 0 0 [] [] .un 1000 rfl hX (.inl rfl) rfl (by omega) (by simp at hn ⊢; omega) (by simp at hn ⊢; omega)
  have e2 : PL [] = .lst [] := rfl
  have e3 : PL ([] ++ pcs [] (x :: X')) = .lstT (pcs [] (x :: X')) := rfl
  rw [e2, e3] at e1
  have e4 := sl_n0_bytes (l := word k w x ++ tailW k w X') (a := (word k w x ++ tailW k w X').length) rfl (by omega)
  rw [List.drop_length] at e4
  have e5 : mkLT (pcs [] (x :: X') ++ [[.bool false, .bytes []]]) = some (.lstT (allP (x :: X'))) := mkLT_ok (by rw [List.length_append, pcs_len]; simp at hn ⊢; omega)
  simp only [Int.natCast_zero] at e1
  exact vcF [(0, fs e1), (0, fp e4), (0, fp e5)] (by kernel_rfl)
end Mine

end
section
set_option Elab.async false
set_option autoImplicit false
set_option maxRecDepth 4000
set_option linter.unusedSimpArgs false
set_option linter.unusedVariables false
namespace Mine
noncomputable def mS (l : List (List Nat)) : List Sc := l.map .str
theorem run_white (n : Nat) : FF (n + 1) 47 [.sc (.bytes [32])] = some (.sc (.bool true)) := by kernel_rfl
theorem idx_piece {P : List (List Sc)} {i : Nat} {a b : Sc} (h : P[i]? = some [a, b]) (hl : P.length ≤ 60000) : index (.lstT P) (.sc (.int (i : Int))) = some (.tup [a, b]) := idx_lstT h (by omega) rfl
theorem turn_skip (n : Nat) {P : List (List Sc)} {i : Nat} {s0 s2 s4 s5 : Slot} (h : P[i]? = some [.bool false, .bytes [32]]) (hl : P.length ≤ 60000) (h1 : 0 < i) (h2 : i + 1 < P.length) :
    execs (FF (n + 4)) Gl 1000 [s0, .val (.lstT P), s2, .val (.sc (.int (i : Int))), s4, s5] l0_decoded_words =
      some ([s0, .val (.lstT P), s2, .val (.sc (.int (i : Int))), .val (.sc (.bool false)), .val (.sc (.bytes [32]))], .next) := by
  have e1 := idx_piece h hl
  have e2 : ((0 : Int) < (i : Int)) = True := eq_true (by omega)
  have e3 : ((i : Int) < (P.length : Int) - 1) = True := eq_true (by omega)
  have e4 := run_white (n + 3)
  exact vcS [(0, fp e1), (0, ft' e2), (2, ft' e3), (0, fp e4)] (by kernel_rfl)
theorem turn_empty (n : Nat) {P : List (List Sc)} {i : Nat} {s0 s4 s5 : Slot} {acc : List (List Nat)} (h : P[i]? = some [.bool false, .bytes []]) (hl : P.length ≤ 60000) (h1 : i = 0 ∨ i + 1 = P.length) (ha : acc.length ≤ 60000) :
    execs (FF (n + 4)) Gl 1000 [s0, .val (.lstT P), .own (.lst (mS acc)), .val (.sc (.int (i : Int))), s4, s5] l0_decoded_words =
      some ([s0, .val (.lstT P), .own (.lst (mS (acc ++ [[]]))), .val (.sc (.int (i : Int))), .val (.sc (.bool false)), .val (.sc (.bytes []))], .next) := by
  have e1 := idx_piece h hl
  have e4 := run_guess n
  have e5 : mkL (mS acc ++ [Sc.str []]) = some (.lst (mS acc ++ [Sc.str []])) := mkL_ok (by simp [mS]; omega)
  have e6 : mS (acc ++ [[]]) = mS acc ++ [Sc.str []] := by simp [mS]
  rw [e6]
  by_cases h0 : 0 < i
  · have e2 : ((0 : Int) < (i : Int)) = True := eq_true (by omega)
    have e3 : ((i : Int) < (P.length : Int) - 1) = False := eq_false (by omega)
    exact vcS [(0, fp e1), (0, ft' e2), (2, ff' e3), (0, fp e4), (0, fp e5)] (by kernel_rfl)
  · have e2 : ((0 : Int) < (i : Int)) = False := eq_false (by omega)
    exact vcS [(0, fp e1), (0, ff' e2), (0, fp e4), (0, fp e5)] (by kernel_rfl)
theorem turn_text (n : Nat) {P : List (List Sc)} {i : Nat} {s0 s4 s5 : Slot} {acc : List (List Nat)} {x : List Nat} (h : P[i]? = some [.bool true, .str x]) (hl : P.length ≤ 60000) (ha : acc.length ≤ 60000) :
    execs (FF (n + 4)) Gl 1000 [s0, .val (.lstT P), .own (.lst (mS acc)), .val (.sc (.int (i : Int))), s4, s5] l0_decoded_words =
      some ([s0, .val (.lstT P), .own (.lst (mS (acc ++ [x]))), .val (.sc (.int (i : Int))), .val (.sc (.bool true)), .val (.sc (.str x))], .next) := by
  have e1 := idx_piece h hl
  have e5 : mkL (mS acc ++ [Sc.str x]) = some (.lst (mS acc ++ [Sc.str x])) := mkL_ok (by simp [mS]; omega)
  have e6 : mS (acc ++ [x]) = mS acc ++ [Sc.str x] := by simp [mS]
  rw [e6]
  exact vcS [(0, fp e1), (0, fp e5)] (by kernel_rfl)
theorem loop_dw (n : Nat) {s0 : Slot} (P : List (List Sc)) (hP : P.length ≤ 50000) : ∀ (X : List (List Nat)) (i : Nat) (acc : List (List Nat)) (g : List Nat) (s3 s4 s5 : Slot), P.drop i = pcs g X ++ [[.bool false, .bytes []]] → (i = 0 ∧ g = [] ∨ 0 < i ∧ g = [32]) → acc.length ≤ i + 1 →
    ∃ acc' s3' s4' s5', forGo (fun ρ => execs (FF (n + 4)) Gl 1000 ρ l0_decoded_words) 3 ((List.range' i (2 * X.length + 1)).map fun (j : Nat) => .int (j : Int)) [s0, .val (.lstT P), .own (.lst (mS acc)), s3, s4, s5] =
      some ([s0, .val (.lstT P), .own (.lst (mS acc')), s3', s4', s5'], .next) ∧ acc'.flatten = acc.flatten ++ X.flatten := by
  intro X
  induction X with
  | nil =>
    intro i acc g s3 s4 s5 h hi ha
    obtain ⟨d1, d2, d3⟩ := drop_cons (r := []) h
    have hlen := congrArg List.length h
    simp [pcs] at hlen
    have t := turn_empty n (s0 := s0) (s4 := s4) (s5 := s5) d1 (by omega) (.inr (by omega)) (acc := acc) (by omega)
    refine ⟨acc ++ [[]], .val (.sc (.int (i : Int))), .val (.sc (.bool false)), .val (.sc (.bytes [])), ?_, by simp⟩
    rw [show 2 * ([] : List (List Nat)).length + 1 = 0 + 1 from rfl, List.range'_succ, List.range'_zero, List.map_cons, List.map_nil]
    exact f_next t rfl
  | cons x r ih =>
    intro i acc g s3 s4 s5 h hi ha
    have hlen := congrArg List.length h
    simp [pcs_len] at hlen
    obtain ⟨d1, d2, d3⟩ := drop_cons (c := [.bool false, .bytes g]) (r := [.bool true, .str x] :: (pcs [32] r ++ [[.bool false, .bytes []]])) (by rw [h]; rfl)
    obtain ⟨g1, g2, g3⟩ := drop_cons d2
    rw [show 2 * (x :: r).length + 1 = (2 * r.length + 1) + 1 + 1 by simp; omega, List.range'_succ, List.range'_succ, List.map_cons, List.map_cons]
    rcases hi with ⟨hi, rfl⟩ | ⟨hi, rfl⟩
    · have t := turn_empty n (s0 := s0) (s4 := s4) (s5 := s5) d1 (by omega) (.inl hi) (acc := acc) (by omega)
      have t2 := turn_text n (s0 := s0) (s4 := .val (.sc (.bool false))) (s5 := .val (.sc (.bytes []))) g1 (by omega) (acc := acc ++ [[]]) (by simp; omega)
      obtain ⟨acc', s3', s4', s5', e, hf⟩ := ih (i + 1 + 1) (acc ++ [[]] ++ [x]) [32] (.val (.sc (.int ((i + 1 : Nat) : Int)))) (.val (.sc (.bool true))) (.val (.sc (.str x))) g2 (.inr ⟨by omega, rfl⟩) (by simp; omega)
      refine ⟨acc', s3', s4', s5', ?_, by rw [hf]; simp⟩
      exact f_next t (f_next t2 e)
    · have t := turn_skip n (s0 := s0) (s2 := .own (.lst (mS acc))) (s4 := s4) (s5 := s5) d1 (by omega) hi (by omega)
      have t2 := turn_text n (s0 := s0) (s4 := .val (.sc (.bool false))) (s5 := .val (.sc (.bytes [32]))) g1 (by omega) (acc := acc) (by omega)
      obtain ⟨acc', s3', s4', s5', e, hf⟩ := ih (i + 1 + 1) (acc ++ [x]) [32] (.val (.sc (.int ((i + 1 : Nat) : Int)))) (.val (.sc (.bool true))) (.val (.sc (.str x))) g2 (.inr ⟨by omega, rfl⟩) (by simp; omega)
      refine ⟨acc', s3', s4', s5', ?_, by rw [hf]; simp⟩
      exact f_next t (f_next t2 e)
theorem run_dw (n : Nat) (k : Cs) (w : Wy) {X : List (List Nat)} (hne : X ≠ []) (hX : ∀ y ∈ X, okT y ∧ hasT k y ∧ (word k w y).length ≤ 75) (hn : X.length ≤ 400) (hl : (joinL [32] (X.map (word k w))).length ≤ 50000) (hf : X.flatten.length ≤ 60000) :
    FF (n + 7) 48 [.sc (.bytes (joinL [32] (X.map (word k w))))] = some (.sc (.str X.flatten)) := by
  rw [r_decoded_words]
  have e1 := run_pieces n k w hne hX hn hl
  have hlen : (allP X).length = 2 * X.length + 1 := by simp [allP, pcs_len]
  obtain ⟨acc', s3', s4', s5', e2, h2⟩ := loop_dw (n + 2) (s0 := .val (.sc (.bytes (joinL [32] (X.map (word k w)))))) (allP X) (by omega) X 0 [] [] .un .un .un rfl (.inl ⟨rfl, rfl⟩) (by simp)
  have e3 := items_r0 (b := (allP X).length) (by omega)
  have e4 := small_nat (k := (allP X).length) (by omega)
  rw [hlen] at e3 e4
  have e5 : mS [] = [] := rfl
  have e6 : toStrs (mS acc') = some acc' := toStrs_ok acc'
  have e7 : joinL [] acc' = X.flatten := by rw [joinL_nil, h2]; rfl
  have e8 : mkS X.flatten = some (.sc (.str X.flatten)) := mkS_ok (by omega)
  rw [e5] at e2
  exact vcF [(0, fp e1), (0, fln hlen), (0, fsm e4), (0, fl e3), (0, fs e2), (0, fp (js_ok e6 (by rw [e7]; exact e8)))] (by kernel_rfl)
end Mine

end
section
set_option Elab.async false
set_option autoImplicit false
set_option maxRecDepth 4000
set_option linter.unusedSimpArgs false
set_option linter.unusedVariables false
namespace Mine
noncomputable def need (t : List Nat) (i : Nat) : Bool :=
  match t[i]? with
  | none => false
  | some c => if c = 32 then (i == 0 || i + 1 == t.length) else if c < 33 ∨ 126 < c then true else
      ((c == 61 && t[i + 1]? == some 63) || (c == 63 && (decide (0 < i) && t[i - 1]? == some 61)))
theorem two_eq {t : List Nat} {i c : Nat} (h : t[i]? = some c) : ((t.drop i).take 2 == [61, 63]) = (c == 61 && t[i + 1]? == some 63) := by
  have hlt := (List.getElem?_eq_some_iff.mp h).1
  have e : t.drop i = c :: t.drop (i + 1) := by
    rw [List.drop_eq_getElem_cons hlt]
    congr 1
    rw [List.getElem?_eq_getElem hlt] at h
    exact Option.some.inj h
  rw [e]
  cases q : t.drop (i + 1) with
  | nil =>
    have : t[i + 1]? = none := by
      rw [List.getElem?_eq_none_iff]
      have := congrArg List.length q
      simp at this; omega (splitDisjunctions := true)
    rw [this]
    simp
  | cons d r =>
    have := (drop_cons q).1
    rw [this]
    rw [Bool.eq_iff_iff]; simp
theorem run_needs (n : Nat) {t : List Nat} {i : Nat} (hi : i < t.length) (hl : t.length ≤ 60000) : FF (n + 1) 0 [.sc (.str t), .sc (.int (i : Int))] = some (.sc (.bool (need t i))) := by
  rw [r_needs_word]
  unfold need
  obtain ⟨c, hc⟩ : ∃ c, t[i]? = some c := ⟨t[i], List.getElem?_eq_getElem hi⟩
  have e1 := idx_str (i := (i : Int)) hc (by omega) rfl
  have i2 : ((i : Int) == (t.length : Int) - 1) = (i + 1 == t.length) := by rw [Bool.eq_iff_iff]; simp; omega
  have i1 : ((i : Int) == 0) = (i == 0) := int_beq i 0
  rw [hc]
  simp only []
  by_cases h32 : c = 32
  · subst h32
    cases hz : (i == 0) with
    | true => exact vcF [(0, fp e1), (3, fp e1), (1, fq (i1.trans hz))] (by kernel_rfl)
    | false => exact vcF [(0, fp e1), (3, fp e1), (1, fq (i1.trans hz)), (2, fq i2)] (by kernel_rfl)
  · rw [if_neg h32]
    have e4 : (([c] : List Nat) == [32]) = false := by simpa using h32
    by_cases hr : c < 33 ∨ 126 < c
    · rw [if_pos hr]
      by_cases h2 : 32 ≤ c
      · have e2 : ((32 : Int) ≤ (c : Int)) = True := eq_true (by omega)
        have e3 : ((c : Int) ≤ 126) = False := eq_false (by omega)
        exact vcF [(0, fp e1), (1, ft' e2), (0, ff' e3)] (by kernel_rfl)
      · have e2 : ((32 : Int) ≤ (c : Int)) = False := eq_false (by omega)
        exact vcF [(0, fp e1), (1, ff' e2)] (by kernel_rfl)
    · rw [if_neg hr]
      have e2 : ((32 : Int) ≤ (c : Int)) = True := eq_true (by omega)
      have e3 : ((c : Int) ≤ 126) = True := eq_true (by omega)
      have e5 := sl_nn_str (l := t) (a := i) (b := i + 2) rfl rfl (by omega) (by omega)
      rw [show i + 2 - i = 2 by omega] at e5
      have e6 := two_eq hc
      have e7 : ∃ m : Nat, (if (i : Int) - 1 < 0 then 0 else (i : Int) - 1) = (m : Int) ∧ m ≤ i ∧ ((t.drop m).take (i + 1 - m) == [61, 63]) = (c == 63 && (decide (0 < i) && t[i - 1]? == some 61)) := by
        by_cases h0 : i = 0
        · subst h0
          refine ⟨0, by simp, Nat.le_refl _, ?_⟩
          have : (t.drop 0).take 1 = [c] := by
            rcases t with _ | ⟨x, r⟩
            ·
              simp at hc
            ·
              simp at hc; simp [hc]
          rw [show 0 + 1 - 0 = 1 from rfl, this]
          simp
        · refine ⟨i - 1, by rw [if_neg (by omega)]; omega, by omega, ?_⟩
          obtain ⟨d, hd⟩ : ∃ d, t[i - 1]? = some d := ⟨t[i - 1]'(by omega), List.getElem?_eq_getElem _⟩
          rw [show i + 1 - (i - 1) = 2 by omega, two_eq hd, show i - 1 + 1 = i by omega, hc, hd]
          have : decide (0 < i) = true := decide_eq_true (by omega)
          rw [this, Bool.eq_iff_iff]; simp; omega
      obtain ⟨m, m1, m2, m3⟩ := e7
      have e8 := sl_nn_str (l := t) (a := m) (b := i + 1) rfl rfl (by omega) (by omega)
      cases hq : (c == 61 && t[i + 1]? == some 63) with
      | true => exact vcF [(0, fp e1), (1, ft' e2), (0, ft' e3), (0, fp e1), (0, fq e4), (1, fp e5), (0, fq (e6.trans hq))] (by kernel_rfl)
      | false => exact vcF [(0, fp e1), (1, ft' e2), (0, ft' e3), (0, fp e1), (0, fq e4), (1, fp e5), (0, fq (e6.trans hq)), (1, fi m1), (1, fp e8), (0, fq m3)] (by kernel_rfl)
theorem run_lneedy (n : Nat) {t : List Nat} {i : Nat} (hi : i < t.length) (hl : t.length ≤ 60000) : FF (n + 1) 49 [.sc (.str t), .sc (.int (i : Int))] = some (.sc (.bool (need t i))) := by
  rw [r_law_is_needy]
  unfold need
  obtain ⟨c, hc⟩ : ∃ c, t[i]? = some c := ⟨t[i], List.getElem?_eq_getElem hi⟩
  have e1 := idx_str (i := (i : Int)) hc (by omega) rfl
  have i2 : ((t.length : Int) - 1 == (i : Int)) = (i + 1 == t.length) := by rw [Bool.eq_iff_iff]; simp; omega
  have i1 : ((0 : Int) == (i : Int)) = (i == 0) := by rw [Bool.eq_iff_iff]; simp; omega
  rw [hc]
  simp only []
  by_cases h32 : c = 32
  · subst h32
    rw [if_pos rfl]
    have e5 : pvIn (.sc (.int (i : Int))) (.tup [.int 0, .int ((t.length : Int) - 1)]) = some (i == 0 || i + 1 == t.length) := by
      show some ((0 : Int) == (i : Int) || ((t.length : Int) - 1 == (i : Int) || false)) = _
      rw [i1, i2, Bool.or_false]
    exact vcF [(0, fp e1), (3, fb e5)] (by kernel_rfl)
  · rw [if_neg h32]
    have e4 : (([c] : List Nat) == [32]) = false := by simpa using h32
    by_cases hr : c < 33 ∨ 126 < c
    · rw [if_pos hr]
      by_cases h2 : 33 ≤ c
      · have e2 : (33 ≤ c) = True := eq_true h2
        have e3 : (c ≤ 126) = False := eq_false (by omega)
        exact vcF [(0, fp e1), (0, fq e4), (0, ft' e2), (0, ff' e3)] (by kernel_rfl)
      · have e2 : (33 ≤ c) = False := eq_false h2
        exact vcF [(0, fp e1), (0, fq e4), (0, ff' e2)] (by kernel_rfl)
    · rw [if_neg hr]
      have e2 : (33 ≤ c) = True := eq_true (by omega)
      have e3 : (c ≤ 126) = True := eq_true (by omega)
      have e5 := sl_nn_str (l := t) (a := i + 1) (b := i + 2) rfl rfl (by omega) (by omega)
      rw [show i + 2 - (i + 1) = 1 by omega] at e5
      have e6 : ((t.drop (i + 1)).take 1 == [63]) = (t[i + 1]? == some 63) := by
        cases q : t.drop (i + 1) with
        | nil =>
          have : t[i + 1]? = none := by
            rw [List.getElem?_eq_none_iff]
            have := congrArg List.length q
            simp at this; omega
          rw [this]; rfl
        | cons d r =>
          rw [(drop_cons q).1, Bool.eq_iff_iff]; simp
      have e7 : (([c] : List Nat) == [61]) = (c == 61) := by rw [Bool.eq_iff_iff]; simp
      have e8 : (([c] : List Nat) == [63]) = (c == 63) := by rw [Bool.eq_iff_iff]; simp
      have z : ((0 : Int) < (i : Int)) = (0 < i) := by apply propext; omega
      by_cases h61 : c = 61
      · subst h61
        have q1 : ((61 : Nat) == 61) = true := rfl
        have q2 : ((61 : Nat) == 63) = false := rfl
        cases hq : (t[i + 1]? == some 63) with
        | true => exact vcF [(0, fp e1), (0, fq e4), (0, ft' e2), (0, ft' e3), (0, fq (e7.trans q1)), (2, fp e5), (0, fq (e6.trans hq))] (by kernel_rfl)
        | false => exact vcF [(0, fp e1), (0, fq e4), (0, ft' e2), (0, ft' e3), (0, fq (e7.trans q1)), (2, fp e5), (0, fq (e6.trans hq)), (0, fq (e8.trans q2))] (by kernel_rfl)
      · have q1 : (c == 61) = false := by simpa using h61
        by_cases h63 : c = 63
        · subst h63
          have q2 : ((63 : Nat) == 63) = true := rfl
          by_cases h0 : 0 < i
          · obtain ⟨d, hd⟩ : ∃ d, t[i - 1]? = some d := ⟨t[i - 1]'(by omega), List.getElem?_eq_getElem _⟩
            have e9 := idx_str (i := (i : Int) - 1) hd (by omega) (by omega)
            have e10 : (([d] : List Nat) == [61]) = (t[i - 1]? == some 61) := by rw [hd, Bool.eq_iff_iff]; simp
            have z' : (0 < i) = True := eq_true h0
            rw [show (((63 : Nat) == 61 && t[i + 1]? == some 63) || ((63 : Nat) == 63 && (decide (0 < i) && t[i - 1]? == some 61))) = (t[i - 1]? == some 61) by rw [decide_eq_true h0]; rfl]
            exact vcF [(0, fp e1), (0, fq e4), (0, ft' e2), (0, ft' e3), (0, fq (e7.trans q1)), (0, fq (e8.trans q2)), (0, ft' (z.trans z')), (1, fp e9), (0, fq e10)] (by kernel_rfl)
          · have z' : (0 < i) = False := eq_false h0
            rw [show (((63 : Nat) == 61 && t[i + 1]? == some 63) || ((63 : Nat) == 63 && (decide (0 < i) && t[i - 1]? == some 61))) = false by rw [decide_eq_false h0]; rfl]
            exact vcF [(0, fp e1), (0, fq e4), (0, ft' e2), (0, ft' e3), (0, fq (e7.trans q1)), (0, fq (e8.trans q2)), (0, ff' (z.trans z'))] (by kernel_rfl)
        · have q2 : (c == 63) = false := by simpa using h63
          rw [q1, q2]
          rw [q1] at e7; rw [q2] at e8
          exact vcF [(0, fp e1), (0, fq e4), (0, ft' e2), (0, ft' e3), (0, fq e7), (0, fq e8)] (by kernel_rfl)
/-! ## the span -/
noncomputable def ndy (t : List Nat) : List Nat := (List.range' 0 t.length).filter (need t)
noncomputable def rowB (t : List Nat) : Nat → Nat
  | 0 => 0
  | b + 1 => if t[b]? = some 32 then b + 1 else rowB t b
noncomputable def rowE (t : List Nat) (e : Nat) : Nat := e + ((t.drop e).takeWhile (· != 32)).length
theorem rowB_le (t : List Nat) : ∀ b, rowB t b ≤ b
  | 0 => Nat.le_refl _
  | b + 1 => by
    have := rowB_le t b
    unfold rowB
    split <;> omega
theorem rowE_le (t : List Nat) {e : Nat} (h : e ≤ t.length) : rowE t e ≤ t.length := by
  unfold rowE
  have := (List.takeWhile_sublist (l := t.drop e) (· != 32)).length_le
  rw [List.length_drop] at this; omega
theorem comp_needy (n : Nat) {t : List Nat} (hl : t.length ≤ 50000) (s1 s2 s3 s4 : Slot) : ev (FF (n + 1)) Gl false [.val (.sc (.str t)), s1, s2, s3, s4] c0_encoded_span = some (.lst (nI (ndy t))) := by
  have e1 := small_nat (k := t.length) (by omega)
  refine cmp_of (p := .rng 0 (t.length : Int) 1) (by exact vcE [(1, fsm e1)] (by kernel_rfl)) (items_r0 (by omega)) (by simp; omega) ?_
  refine cmpF (g := fun (x : Nat) => .int x) (fun i hi => ?_) fun i hi _ => ?_
  · simp only [List.mem_range'_1] at hi
    have e := run_needs n (t := t) (i := i) (by omega) (by omega)
    cases hn : need t i with
    | true => rw [hn] at e; exact vcA [(0, fp e)] (by kernel_rfl)
    | false => rw [hn] at e; exact vcA [(0, fp e)] (by kernel_rfl)
  · exact vcC [] (by kernel_rfl)
theorem succ_sub (b : Nat) : ((b + 1 : Nat) : Int) - 1 = (b : Int) := by omega
theorem loop_begin (F : Fns) {t : List Nat} (hl : t.length ≤ 60000) {s1 s3 s4 : Slot} : ∀ (b fuel : Nat), b ≤ t.length → b < fuel →
    whileGo (fun ρ => tst F Gl ρ t0_encoded_span) (fun ρ => execs F Gl 1000 ρ l0_encoded_span) fuel [.val (.sc (.str t)), s1, .val (.sc (.int (b : Int))), s3, s4] = some ([.val (.sc (.str t)), s1, .val (.sc (.int ((rowB t b : Nat) : Int))), s3, s4], .next) := by
  intro b
  induction b with
  | zero =>
    intro fuel hb hf
    obtain ⟨fuel, rfl⟩ : ∃ f, fuel = f + 1 := ⟨fuel - 1, by omega⟩
    exact w_end (by exact vcT [] (by kernel_rfl))
  | succ b ih =>
    intro fuel hb hf
    obtain ⟨fuel, rfl⟩ : ∃ f, fuel = f + 1 := ⟨fuel - 1, by omega⟩
    obtain ⟨c, hc⟩ : ∃ c, t[b]? = some c := ⟨t[b]'(by omega), List.getElem?_eq_getElem _⟩
    have e1 : ((0 : Int) < ((b + 1 : Nat) : Int)) = True := eq_true (by omega)
    have e2 := idx_str (i := (b : Int)) hc (by omega) rfl
    have e3 := succ_sub b
    by_cases h32 : c = 32
    · subst h32
      have e5 : rowB t (b + 1) = b + 1 := by rw [rowB, if_pos hc]
      rw [e5]
      exact w_end (by exact vcT [(0, ft' e1), (0, fi e3), (0, fp e2)] (by kernel_rfl))
    · have e4 : (([c] : List Nat) == [32]) = false := by simpa using h32
      have e5 : rowB t (b + 1) = rowB t b := by rw [rowB, if_neg (by rw [hc]; simpa using h32)]
      have i := ih fuel (by omega) (by omega)
      have tt : tst F Gl [.val (.sc (.str t)), s1, .val (.sc (.int ((b + 1 : Nat) : Int))), s3, s4] t0_encoded_span = some true := by
        exact vcT [(0, ft' e1), (0, fi e3), (0, fp e2), (0, fn e4)] (by kernel_rfl)
      have bb : execs F Gl 1000 [.val (.sc (.str t)), s1, .val (.sc (.int ((b + 1 : Nat) : Int))), s3, s4] l0_encoded_span = some ([.val (.sc (.str t)), s1, .val (.sc (.int (b : Int))), s3, s4], .next) := by
        exact vcS [(0, fi e3)] (by kernel_rfl)
      rw [e5]
      exact w_next tt bb i
theorem loop_end (F : Fns) {t : List Nat} (hl : t.length ≤ 60000) {s1 s2 s4 : Slot} : ∀ (r : List Nat) (e fuel : Nat), t.drop e = r → e ≤ t.length → r.length < fuel →
    whileGo (fun ρ => tst F Gl ρ t1_encoded_span) (fun ρ => execs F Gl 1000 ρ l1_encoded_span) fuel [.val (.sc (.str t)), s1, s2, .val (.sc (.int (e : Int))), s4] = some ([.val (.sc (.str t)), s1, s2, .val (.sc (.int ((e + (r.takeWhile (· != 32)).length : Nat) : Int))), s4], .next) := by
  intro r
  induction r with
  | nil =>
    intro e fuel h he hf
    obtain ⟨fuel, rfl⟩ : ∃ f, fuel = f + 1 := ⟨fuel - 1, by omega⟩
    have := drop_nil h he
    subst this
    have e1 : ((t.length : Int) < (t.length : Int)) = False := eq_false (by omega)
    exact w_end (by exact vcT [(1, ff' e1)] (by kernel_rfl))
  | cons c r ih =>
    intro e fuel h he hf
    simp only [List.length_cons] at hf
    obtain ⟨fuel, rfl⟩ : ∃ f, fuel = f + 1 := ⟨fuel - 1, by omega⟩
    obtain ⟨d1, d2, d3⟩ := drop_cons h
    have e1 : ((e : Int) < (t.length : Int)) = True := eq_true (by omega)
    have e2 := idx_str (i := (e : Int)) d1 (by omega) rfl
    by_cases h32 : c = 32
    · subst h32
      have e5 : ((32 :: r).takeWhile (· != 32)).length = 0 := rfl
      rw [e5]
      exact w_end (by exact vcT [(1, ft' e1), (0, fp e2)] (by kernel_rfl))
    · have e4 : (([c] : List Nat) == [32]) = false := by simpa using h32
      have e5 : e + ((c :: r).takeWhile (· != 32)).length = (e + 1) + (r.takeWhile (· != 32)).length := by
        rw [List.takeWhile_cons, if_pos (by simpa using h32), List.length_cons]; omega
      have i := ih (e + 1) fuel d2 (by omega) (by omega)
      have tt : tst F Gl [.val (.sc (.str t)), s1, s2, .val (.sc (.int (e : Int))), s4] t1_encoded_span = some true := by
        exact vcT [(1, ft' e1), (0, fp e2), (0, fn e4)] (by kernel_rfl)
      have bb : execs F Gl 1000 [.val (.sc (.str t)), s1, s2, .val (.sc (.int (e : Int))), s4] l1_encoded_span = some ([.val (.sc (.str t)), s1, s2, .val (.sc (.int ((e + 1 : Nat) : Int))), s4], .next) := by
        exact vcS [] (by kernel_rfl)
      rw [e5]
      exact w_next tt bb i
theorem ndy_lt {t : List Nat} {i : Nat} (h : i ∈ ndy t) : i < t.length ∧ need t i = true := by
  unfold ndy at h
  rw [List.mem_filter, List.mem_range'_1] at h
  exact ⟨by omega, h.2⟩
theorem run_span0 (n : Nat) {t : List Nat} (hl : t.length ≤ 900) (h : ndy t = []) : FF (n + 2) 1 [.sc (.str t)] = some (.tup [.int 0, .int 0]) := by
  rw [r_encoded_span]
  have e1 := comp_needy n (t := t) (by omega) .un .un .un .un
  rw [h] at e1
  have e2 : nI [] = [] := rfl
  rw [e2] at e1
  exact vcF [(0, fw e1)] (by kernel_rfl)
theorem run_span (n : Nat) {t : List Nat} {a z : Nat} (hl : t.length ≤ 900) (ha : (ndy t)[0]? = some a) (hz : (ndy t).getLast? = some z) :
    FF (n + 2) 1 [.sc (.str t)] = some (.tup [.int ((rowB t a : Nat) : Int), .int ((rowE t (z + 1) : Nat) : Int)]) := by
  rw [r_encoded_span]
  have e1 := comp_needy n (t := t) (by omega) .un .un .un .un
  have hlen : (ndy t).length ≤ t.length := by
    unfold ndy
    refine Nat.le_trans (List.length_filter_le _ _) ?_
    simp
  have e2 : (nI (ndy t)).isEmpty = false := by
    cases q : ndy t with
    | nil => rw [q] at ha; simp at ha
    | cons x r => rfl
  have i0 : index (.lst (nI (ndy t))) (.sc (.int 0)) = some (.sc (.int (a : Int))) := idx_nI (k := 0) ha (by omega)
  have i1 : index (.lst (nI (ndy t))) (.sc (.int (-1))) = some (.sc (.int (z : Int))) := idx_last_nI hz (by omega)
  have ha' := ndy_lt (List.mem_of_getElem? ha)
  have hz' := ndy_lt (List.mem_of_getLast? hz)
  have l1 := loop_begin (FF (n + 1)) (t := t) (by omega) (s1 := .val (.lst (nI (ndy t)))) (s3 := .val (.sc (.int ((z + 1 : Nat) : Int)))) (s4 := .un) a 1000 (by omega) (by omega)
  have l2 := loop_end (FF (n + 1)) (t := t) (by omega) (s1 := .val (.lst (nI (ndy t)))) (s2 := .val (.sc (.int ((rowB t a : Nat) : Int)))) (s4 := .un) (t.drop (z + 1)) (z + 1) 1000 rfl (by omega) (by simp; omega)
  unfold rowE
  exact vcF [(0, fw e1), (0, fq e2), (0, fp i0), (0, fp i1), (1, fs l1), (0, fs l2)] (by kernel_rfl)
end Mine

end
section
set_option Elab.async false
set_option autoImplicit false
set_option maxRecDepth 4000
set_option linter.unusedSimpArgs false
set_option linter.unusedVariables false
namespace Mine
theorem loop_lrb (F : Fns) {t : List Nat} (hl : t.length ≤ 60000) : ∀ (b fuel : Nat), b ≤ t.length → b < fuel →
    whileGo (fun ρ => tst F Gl ρ t0_law_row_begin) (fun ρ => execs F Gl 1000 ρ l0_law_row_begin) fuel [.val (.sc (.str t)), .val (.sc (.int (b : Int)))] = some ([.val (.sc (.str t)), .val (.sc (.int ((rowB t b : Nat) : Int)))], .next) := by
  intro b
  induction b with
  | zero =>
    intro fuel hb hf
    obtain ⟨fuel, rfl⟩ : ∃ f, fuel = f + 1 := ⟨fuel - 1, by omega⟩
    have e1 : ((0 : Int) < ((0 : Nat) : Int)) = False := eq_false (by decide)
    exact w_end (by exact vcT [(0, ff' e1)] (by kernel_rfl))
  | succ b ih =>
    intro fuel hb hf
    obtain ⟨fuel, rfl⟩ : ∃ f, fuel = f + 1 := ⟨fuel - 1, by omega⟩
    obtain ⟨c, hc⟩ : ∃ c, t[b]? = some c := ⟨t[b]'(by omega), List.getElem?_eq_getElem _⟩
    have e1 : ((0 : Int) < ((b + 1 : Nat) : Int)) = True := eq_true (by omega)
    have e2 := idx_str (i := (b : Int)) hc (by omega) rfl
    have e3 := succ_sub b
    by_cases h32 : c = 32
    · subst h32
      have e5 : rowB t (b + 1) = b + 1 := by rw [rowB, if_pos hc]
      rw [e5]
      exact w_end (by exact vcT [(0, ft' e1), (0, fi e3), (0, fp e2)] (by kernel_rfl))
    · have e4 : (([c] : List Nat) == [32]) = false := by simpa using h32
      have e5 : rowB t (b + 1) = rowB t b := by rw [rowB, if_neg (by rw [hc]; simpa using h32)]
      have i := ih fuel (by omega) (by omega)
      have tt : tst F Gl [.val (.sc (.str t)), .val (.sc (.int ((b + 1 : Nat) : Int)))] t0_law_row_begin = some true := by
        exact vcT [(0, ft' e1), (0, fi e3), (0, fp e2), (0, fn e4)] (by kernel_rfl)
      have bb : execs F Gl 1000 [.val (.sc (.str t)), .val (.sc (.int ((b + 1 : Nat) : Int)))] l0_law_row_begin = some ([.val (.sc (.str t)), .val (.sc (.int (b : Int)))], .next) := by
        exact vcS [(0, fi e3)] (by kernel_rfl)
      rw [e5]
      exact w_next tt bb i
theorem loop_lre (F : Fns) {t : List Nat} (hl : t.length ≤ 60000) : ∀ (r : List Nat) (e fuel : Nat), t.drop e = r → e ≤ t.length → r.length < fuel →
    whileGo (fun ρ => tst F Gl ρ t0_law_row_end) (fun ρ => execs F Gl 1000 ρ l0_law_row_end) fuel [.val (.sc (.str t)), .val (.sc (.int (e : Int)))] = some ([.val (.sc (.str t)), .val (.sc (.int ((e + (r.takeWhile (· != 32)).length : Nat) : Int)))], .next) := by
  intro r
  induction r with
  | nil =>
    intro e fuel h he hf
    obtain ⟨fuel, rfl⟩ : ∃ f, fuel = f + 1 := ⟨fuel - 1, by omega⟩
    have := drop_nil h he
    subst this
    have e1 : ((t.length : Int) < (t.length : Int)) = False := eq_false (by omega)
    exact w_end (by exact vcT [(1, ff' e1)] (by kernel_rfl))
  | cons c r ih =>
    intro e fuel h he hf
    simp only [List.length_cons] at hf
    obtain ⟨fuel, rfl⟩ : ∃ f, fuel = f + 1 := ⟨fuel - 1, by omega⟩
    obtain ⟨d1, d2, d3⟩ := drop_cons h
    have e1 : ((e : Int) < (t.length : Int)) = True := eq_true (by omega)
    have e2 := idx_str (i := (e : Int)) d1 (by omega) rfl
    by_cases h32 : c = 32
    · subst h32
      have e5 : ((32 :: r).takeWhile (· != 32)).length = 0 := rfl
      rw [e5]
      exact w_end (by exact vcT [(1, ft' e1), (0, fp e2)] (by kernel_rfl))
    · have e4 : (([c] : List Nat) == [32]) = false := by simpa using h32
      have e5 : e + ((c :: r).takeWhile (· != 32)).length = (e + 1) + (r.takeWhile (· != 32)).length := by
        rw [List.takeWhile_cons, if_pos (by simpa using h32), List.length_cons]; omega
      have i := ih (e + 1) fuel d2 (by omega) (by omega)
      have tt : tst F Gl [.val (.sc (.str t)), .val (.sc (.int (e : Int)))] t0_law_row_end = some true := by
        exact vcT [(1, ft' e1), (0, fp e2), (0, fn e4)] (by kernel_rfl)
      have bb : execs F Gl 1000 [.val (.sc (.str t)), .val (.sc (.int (e : Int)))] l0_law_row_end = some ([.val (.sc (.str t)), .val (.sc (.int ((e + 1 : Nat) : Int)))], .next) := by
        exact vcS [] (by kernel_rfl)
      rw [e5]
      exact w_next tt bb i
theorem run_lrb (n : Nat) {t : List Nat} {b : Nat} (hl : t.length ≤ 900) (hb : b ≤ t.length) : FF (n + 1) 50 [.sc (.str t), .sc (.int (b : Int))] = some (.sc (.int ((rowB t b : Nat) : Int))) := by
  rw [r_law_row_begin]
  have e1 := loop_lrb (FF n) (t := t) (by omega) b 1000 hb (by omega)
  exact vcF [(0, fs e1)] (by kernel_rfl)
theorem run_lre (n : Nat) {t : List Nat} {e : Nat} (hl : t.length ≤ 900) (he : e ≤ t.length) : FF (n + 1) 51 [.sc (.str t), .sc (.int (e : Int))] = some (.sc (.int ((rowE t e : Nat) : Int))) := by
  rw [r_law_row_end]
  have e1 := loop_lre (FF n) (t := t) (by omega (splitDisjunctions := true)) (t.drop e) e 1000 rfl he (by simp; omega (splitDisjunctions := true))
  unfold rowE
  exact vcF [(0, fs e1)] (by kernel_rfl)
theorem comp_law (n : Nat) {t : List Nat} (hl : t.length ≤ 50000) {s0 s1 s3 s4 s5 s6 s7 s8 s9 s10 s11 s12 s13 : Slot} : ev (FF (n + 1)) Gl false [s0, s1, .val (.sc (.str t)), s3, s4, s5, s6, s7, s8, s9, s10, s11, s12, s13] c0_law = some (.lst (nI (ndy t))) := by
  have e1 := small_nat (k := t.length) (by omega)
  refine cmp_of (p := .rng 0 (t.length : Int) 1) (by exact vcE [(1, fsm e1)] (by kernel_rfl)) (items_r0 (by omega)) (by simp; omega) ?_
  refine cmpF (g := fun (x : Nat) => .int x) (fun i hi => ?_) fun i hi _ => ?_
  · simp only [List.mem_range'_1] at hi
    have e := run_lneedy n (t := t) (i := i) (by omega) (by omega)
    cases hn : need t i with
    | true => rw [hn] at e; exact vcA [(0, fp e)] (by kernel_rfl)
    | false => rw [hn] at e; exact vcA [(0, fp e)] (by kernel_rfl)
  · exact vcC [] (by kernel_rfl)
/-! ## what is not needy -/
theorem need_false {t : List Nat} {i c : Nat} (hc : t[i]? = some c) (h : need t i = false) : (c = 32 ∧ 0 < i ∧ i + 1 ≠ t.length) ∨ (c ≠ 32 ∧ 33 ≤ c ∧ c ≤ 126 ∧ ¬ (c = 61 ∧ t[i + 1]? = some 63) ∧ ¬ (c = 63 ∧ 0 < i ∧ t[i - 1]? = some 61)) := by
  unfold need at h
  rw [hc] at h
  simp only [] at h
  by_cases h32 : c = 32
  · rw [if_pos h32] at h
    simp only [Bool.or_eq_false_iff, beq_eq_false_iff_ne] at h
    exact .inl ⟨h32, by omega, h.2⟩
  · rw [if_neg h32] at h
    split at h
    · cases h
    · rename_i hr
      simp only [Bool.or_eq_false_iff, Bool.and_eq_false_iff, beq_eq_false_iff_ne, decide_eq_false_iff_not] at h
      refine .inr ⟨h32, by omega, by omega, ?_, ?_⟩
      · rintro ⟨a, b⟩; rcases h.1 with h | h
        · exact h a
        · exact h b
      · rintro ⟨a, b, c⟩; rcases h.2 with h | h | h
        · exact h a
        · exact h b
        · exact h c
theorem filter_first {p : Nat → Bool} : ∀ {m k a : Nat}, ((List.range' k m).filter p)[0]? = some a → ∀ i, k ≤ i → i < a → p i = false
  | 0, k, a, h, _, _, _ => by simp at h
  | m + 1, k, a, h, i, hk, hi => by
    rw [List.range'_succ, List.filter_cons] at h
    cases hp : p k with
    | true =>
      rw [hp] at h
      simp at h; omega
    | false =>
      rw [hp] at h
      simp only [Bool.false_eq_true, if_false] at h
      by_cases he : i = k
      · rw [he]; exact hp
      · exact filter_first h i (by omega) hi
theorem filter_last {p : Nat → Bool} : ∀ {m z : Nat}, ((List.range' 0 m).filter p).getLast? = some z → ∀ i, z < i → i < m → p i = false
  | 0, z, h, _, _, hi => by omega
  | m + 1, z, h, i, hz, hi => by
    rw [show List.range' 0 (m + 1) = List.range' 0 m ++ [m] by simp [List.range'_concat], List.filter_append, List.getLast?_append] at h
    cases hp : p m with
    | true =>
      simp [hp] at h; omega
    | false =>
      rw [List.filter_cons, hp] at h
      simp only [Bool.false_eq_true, if_false, List.filter_nil, List.getLast?_nil, Option.none_or] at h
      by_cases he : i = m
      · rw [he]; exact hp
      · exact filter_last h i hz (by omega)
theorem ndy_none {t : List Nat} (h : ndy t = []) : ∀ i, i < t.length → need t i = false := fun i hi => by
  cases q : need t i with
  | false => rfl
  | true =>
    have : i ∈ ndy t := List.mem_filter.mpr ⟨List.mem_range'_1.mpr ⟨Nat.zero_le _, by omega⟩, q⟩
    rw [h] at this; cases this
theorem ndy_of_none {t : List Nat} (h : ∀ i, i < t.length → need t i = false) : ndy t = [] := by
  unfold ndy
  rw [List.filter_eq_nil_iff]
  intro i hi
  rw [List.mem_range'_1] at hi
  rw [h i (by omega)]; decide
theorem lt_of_need {t : List Nat} {i c : Nat} (hc : t[i]? = some c) (h : need t i = false) : c < 128 := by
  rcases need_false hc h with ⟨rfl, _⟩ | ⟨_, _, h, _⟩ <;> omega
theorem flat_a (t : List Nat) : t.flatMap (oct .a) = t := by
  induction t with
  | nil => rfl
  | cons c r ih => rw [List.flatMap_cons, ih]; rfl
theorem run_oa (n : Nat) {t : List Nat} (ht : okT t) (h : ∀ c ∈ t, c < 128) (hl : t.length ≤ 10000) : FF (n + 3) 6 [.sc (.str asciiL), .sc (.str t)] = some (.sc (.bytes t)) := by
  have e := run_octets_in n .a ht (fun c hc => decide_eq_true (h c hc)) hl
  rw [flat_a] at e
  exact e
theorem run_ew0 (n : Nat) {t : List Nat} (ht : okT t) (hl : t.length ≤ 700) (h : ndy t = []) : FF (n + 9) 22 [.sc (.str t)] = some (.sc (.bytes t)) := by
  rw [r1_encoded_words]
  have e1 := run_span0 (n + 6) (t := t) (by omega) h
  have e2 := run_oa (n + 5) ht (fun c hc => by
    obtain ⟨i, hi⟩ := List.getElem?_of_mem hc
    exact lt_of_need hi (ndy_none h i (List.getElem?_eq_some_iff.mp hi).1)) (by omega)
  have e3 : ((0 : Int) == 0) = true := rfl
  exact vcF [(0, fp e1), (0, fq e3), (0, fp e2)] (by kernel_rfl)
theorem run_ew (n : Nat) {t : List Nat} {a z : Nat} (ht : okT t) (hl : t.length ≤ 700) (ha : (ndy t)[0]? = some a) (hz : (ndy t).getLast? = some z) (h1 : ∀ c ∈ t.take (rowB t a), c < 128) (h2 : ∀ c ∈ t.drop (rowE t (z + 1)), c < 128) :
    FF (n + 9) 22 [.sc (.str t)] = some (.sc (.bytes (t.take (rowB t a) ++ shorter (bestK ((t.drop (rowB t a)).take (rowE t (z + 1) - rowB t a))) ((t.drop (rowB t a)).take (rowE t (z + 1) - rowB t a)) ++ t.drop (rowE t (z + 1))))) := by
  rw [r1_encoded_words]
  have ha' := ndy_lt (List.mem_of_getElem? ha)
  have hz' := ndy_lt (List.mem_of_getLast? hz)
  have hB := rowB_le t a
  have hE := rowE_le t (e := z + 1) (by omega)
  have hE0 : 0 < rowE t (z + 1) := by unfold rowE; omega
  have e1 := run_span (n + 6) (t := t) (by omega) ha hz
  generalize rowB t a = B at *
  generalize rowE t (z + 1) = E at *
  have hM : okT ((t.drop B).take (E - B)) := fun c hc => ht c (List.mem_of_mem_drop (List.mem_of_mem_take hc))
  have hlM : ((t.drop B).take (E - B)).length ≤ 700 := by simp; omega
  have e2 := run_best (n + 5) (t := (t.drop B).take (E - B)) hM (by omega)
  have e3 := run_shorter n (bestK ((t.drop B).take (E - B))) (t := (t.drop B).take (E - B)) hM (best_has _) hlM
  have e4 := run_oa (n + 5) (t := t.take B) (fun c hc => ht c (List.mem_of_mem_take hc)) h1 (by simp; omega)
  have e5 := run_oa (n + 5) (t := t.drop E) (fun c hc => ht c (List.mem_of_mem_drop hc)) h2 (by simp; omega)
  have e6 := sl_nn_str (l := t) (a := B) (b := E) rfl rfl (by omega) (by omega)
  have e7 := sl_0n_str (l := t) (b := B) rfl (by omega)
  have e8 := sl_n0_str (l := t) (a := E) rfl (by omega)
  have e9 : ((E : Int) == 0) = false := by rw [beq_eq_false_iff_ne]; omega
  have e10 : ((bestK ((t.drop B).take (E - B))).n == []) = false := by cases bestK ((t.drop B).take (E - B)) <;> decide
  have hsl : (shorter (bestK ((t.drop B).take (E - B))) ((t.drop B).take (E - B))).length ≤ 60000 := by
    unfold shorter
    split
    · exact words_len _ _ hlM
    · exact words_len _ _ hlM
  generalize hS : shorter (bestK ((t.drop B).take (E - B))) ((t.drop B).take (E - B)) = S at *
  have m1 : mkB (t.take B ++ S) = some (.sc (.bytes (t.take B ++ S))) := mkB_ok (by simp; omega)
  have m2 : mkB (t.take B ++ S ++ t.drop E) = some (.sc (.bytes (t.take B ++ S ++ t.drop E))) := mkB_ok (by simp; omega)
  exact vcF [(0, fp e1), (0, fq e9), (0, fp e6), (0, fp e2), (0, fq e10), (0, fp e7), (0, fp e4), (0, fp e6), (0, fp e3), (0, fp m1), (0, fp e8), (0, fp e5), (0, fp m2)] (by kernel_rfl)
end Mine

end
section
set_option Elab.async false
set_option autoImplicit false
set_option maxRecDepth 4000
set_option linter.unusedSimpArgs false
set_option linter.unusedVariables false
namespace Mine
theorem rowB_blank (t : List Nat) : ∀ b, rowB t b = 0 ∨ t[rowB t b - 1]? = some 32
  | 0 => .inl rfl
  | b + 1 => by
    by_cases h : t[b]? = some 32
    · right
      rw [rowB, if_pos h]; exact h
    · rw [rowB, if_neg h]; exact rowB_blank t b
theorem takeWhile_end (p : Nat → Bool) : ∀ l : List Nat, (l.takeWhile p).length = l.length ∨ ∃ c, l[(l.takeWhile p).length]? = some c ∧ p c = false
  | [] => .inl rfl
  | c :: r => by
    rw [List.takeWhile_cons]
    cases h : p c with
    | false => right; exact ⟨c, rfl, h⟩
    | true =>
      simp only [if_true, List.length_cons]
      rcases takeWhile_end p r with h | ⟨d, h1, h2⟩
      · left; omega
      · right; exact ⟨d, by simpa using h1, h2⟩
theorem rowE_blank (t : List Nat) {e : Nat} (he : e ≤ t.length) : rowE t e = t.length ∨ t[rowE t e]? = some 32 := by
  unfold rowE
  rcases takeWhile_end (· != 32) (t.drop e) with h | ⟨c, h1, h2⟩
  · left; rw [h, List.length_drop]; omega
  · right
    rw [List.getElem?_drop] at h1
    rw [h1]
    simp at h2; rw [h2]
theorem split_app (c : Nat) : ∀ (w r : List Nat), c ∉ w → splitL c (w ++ c :: r) = w :: splitL c r
  | [], r, _ => by simp [splitL]
  | x :: w, r, h => by
    simp only [List.mem_cons, not_or] at h
    have ih := split_app c w r h.2
    have hx : ¬ x = c := fun e => h.1 e.symm
    rw [List.cons_append, splitL, if_neg hx, ih]
theorem split_one (c : Nat) : ∀ (w : List Nat), c ∉ w → splitL c w = [w]
  | [], _ => rfl
  | x :: w, h => by
    simp only [List.mem_cons, not_or] at h
    have ih := split_one c w h.2
    have hx : ¬ x = c := fun e => h.1 e.symm
    rw [splitL, if_neg hx, ih]
theorem split_join (c : Nat) : ∀ (x : List Nat) (r : List (List Nat)), (∀ w ∈ x :: r, c ∉ w) → splitL c (joinL [c] (x :: r)) = x :: r
  | x, [], h => split_one c x (h x (by simp))
  | x, y :: r, h => by
    have e : joinL [c] (x :: y :: r) = x ++ c :: joinL [c] (y :: r) := by
      show x ++ [c] ++ joinL [c] (y :: r) = _
      simp
    rw [e, split_app c x _ (h x (by simp)), split_join c y r fun w hw => h w (List.mem_cons_of_mem _ hw)]
theorem ws_not {l : List Nat} (h : ∀ c ∈ l, isWS c = true) (d : Nat) (hd : isWS d = false) : d ∉ l := fun m => by
  rw [h d m] at hd; cases hd
theorem count_none {l : List Nat} {d : Nat} (h : d ∉ l) : (l.filter (· == d)).length = 0 := by
  rw [List.length_eq_zero_iff, List.filter_eq_nil_iff]
  intro a ha
  simp only [beq_iff_eq]
  rintro rfl; exact h ha
theorem word_facts (k : Cs) (w : Wy) {x : List Nat} (hx : okT x) (hk : hasT k x) : 32 ∉ word k w x ∧ (word k w x).take 2 = [61, 63] ∧ (word k w x).drop ((word k w x).length - 2) = [63, 61] ∧ ((word k w x).filter (· == 63)).length = 4 := by
  have h1 := n_ws k
  have h2 := w_ws w
  have h3 := pay_ws w (oct_all k hx hk)
  unfold word
  generalize pay w (x.flatMap (oct k)) = p at *
  refine ⟨?_, ?_, ?_, ?_⟩
  · unfold frame
    have a := ws_not h1 32 (by decide)
    have b := ws_not h2 32 (by decide)
    have c := ws_not h3 32 (by decide)
    simp only [List.mem_append, not_or]
    refine ⟨⟨⟨⟨by decide, ⟨a, by decide⟩, b⟩, by decide⟩, c⟩, by decide⟩
  · unfold frame; simp
  · have : frame k w p = ([61, 63] ++ (k.n ++ [63] ++ [w.c]) ++ [63] ++ p) ++ [63, 61] := by unfold frame; simp
    rw [this, List.length_append, show ([63, 61] : List Nat).length = 2 from rfl, Nat.add_sub_cancel, List.drop_left]
  · unfold frame
    have a := count_none (ws_not h1 63 (by decide))
    have b := count_none (ws_not h2 63 (by decide))
    have c := count_none (ws_not h3 63 (by decide))
    simp only [List.filter_append, List.length_append, a, b, c]
    decide
/-! ## parts -/
theorem clean_part {t : List Nat} {o m : Nat} (ho : o + m ≤ t.length) (h : ∀ i, o ≤ i → i < o + m → need t i = false) (h1 : ((t.drop o).take m).head? ≠ some 32) (h2 : ((t.drop o).take m).getLast? ≠ some 32) : ndy ((t.drop o).take m) = [] := by
  have hlen : ((t.drop o).take m).length = m := by simp; omega
  have at' : ∀ i, i < m → ((t.drop o).take m)[i]? = t[o + i]? := fun i hi => by
    rw [List.getElem?_take, if_pos hi, List.getElem?_drop]
  refine ndy_of_none fun i hi => ?_
  rw [hlen] at hi
  obtain ⟨c, hc⟩ : ∃ c, t[o + i]? = some c := ⟨t[o + i]'(by omega), List.getElem?_eq_getElem _⟩
  have hn := need_false hc (h (o + i) (by omega) (by omega))
  have hci := (at' i hi).trans hc
  unfold need
  rw [hci]
  simp only []
  rcases hn with ⟨rfl, _, _⟩ | ⟨n1, n2, n3, n4, n5⟩
  · rw [if_pos rfl, hlen]
    simp only [Bool.or_eq_false_iff, beq_eq_false_iff_ne]
    constructor
    · rintro rfl
      exact h1 (by rw [List.head?_eq_getElem?]; exact hci)
    · intro e
      refine h2 ?_
      rw [List.getLast?_eq_getElem?, hlen, show m - 1 = i by omega]; exact hci
  · rw [if_neg n1, if_neg (by omega)]
    simp only [Bool.or_eq_false_iff, Bool.and_eq_false_iff, beq_eq_false_iff_ne, decide_eq_false_iff_not]
    constructor
    · by_cases e : c = 61
      · right
        by_cases hi' : i + 1 < m
        · rw [at' (i + 1) hi']
          exact fun q => n4 ⟨e, by rw [← q]; rfl⟩
        · rw [List.getElem?_eq_none (by rw [hlen]; omega)]
          simp
      · exact .inl e
    · by_cases e : c = 63
      · right
        by_cases h0 : 0 < i
        · right
          rw [at' (i - 1) (by omega)]
          exact fun q => n5 ⟨e, by omega, by rw [← q]; congr 1; omega⟩
        · exact .inl h0
      · exact .inl e
theorem dropWhile_head (p : Nat → Bool) : ∀ (l : List Nat) (c : Nat), (l.dropWhile p).head? = some c → p c = false
  | [], c, h => by cases h
  | x :: r, c, h => by
    rw [List.dropWhile_cons] at h
    cases hx : p x with
    | true => rw [hx] at h; exact dropWhile_head p r c (by simpa using h)
    | false => rw [hx] at h; simp at h; rw [← h]; exact hx
theorem strip_seg (l : List Nat) : ∃ a b, a + b ≤ l.length ∧ stripL 32 l = (l.drop a).take b ∧ (stripL 32 l).head? ≠ some 32 ∧ (stripL 32 l).getLast? ≠ some 32 := by
  have e1 : l.dropWhile (· == 32) = l.drop (l.takeWhile (· == 32)).length := (drop_takeWhile_len _ l).symm
  have hl1 := (List.takeWhile_sublist (l := l) (· == 32)).length_le
  refine ⟨(l.takeWhile (· == 32)).length, ((l.dropWhile (· == 32)).length - ((l.dropWhile (· == 32)).reverse.takeWhile (· == 32)).length), ?_, ?_, ?_, ?_⟩
  · rw [e1, List.length_drop]; omega (splitDisjunctions := true)
  · unfold stripL
    rw [← take_takeWhile_len, ← e1]
  · unfold stripL
    rw [← take_takeWhile_len]
    intro h
    rw [List.head?_take] at h
    split at h
    · cases h
    · have := dropWhile_head _ _ _ h
      simp at this
  · unfold stripL
    rw [List.getLast?_reverse]
    intro h
    have := dropWhile_head _ _ _ h
    simp at this
theorem part_ok {t : List Nat} {o m : Nat} (ho : o + m ≤ t.length) (h : ∀ i, o ≤ i → i < o + m → need t i = false) (ht : okT t) : ndy (stripL 32 ((t.drop o).take m)) = [] ∧ okT (stripL 32 ((t.drop o).take m)) ∧ (stripL 32 ((t.drop o).take m)).length ≤ t.length := by
  obtain ⟨a, b, hab, he, h1, h2⟩ := strip_seg ((t.drop o).take m)
  have hlen : ((t.drop o).take m).length = m := by simp; omega
  rw [hlen] at hab
  have e : stripL 32 ((t.drop o).take m) = (t.drop (o + a)).take b := by
    rw [he, List.drop_take, List.drop_drop, List.take_take, Nat.min_eq_left (by omega)]
  rw [e] at h1 h2 ⊢
  refine ⟨clean_part (by omega) (fun i hi hj => h i (by omega) (by omega)) h1 h2, fun c hc => ht c (List.mem_of_mem_drop (List.mem_of_mem_take hc)), by simp; omega⟩
end Mine

end
section
set_option Elab.async false
set_option autoImplicit false
set_option maxRecDepth 4000
set_option linter.unusedSimpArgs false
set_option linter.unusedVariables false
namespace Mine
theorem turn_row (F : Fns) {s0 s1 s2 s3 s4 s5 s6 s7 s8 s9 s10 s12 s13 : Slot} {x : List Nat} (h2 : x.take 2 = [61, 63]) (h3 : x.drop (x.length - 2) = [63, 61]) (h4 : (x.filter (· == 63)).length = 4) (hl : x.length ≤ 60000) :
    execs F Gl 1000 [s0, s1, s2, s3, s4, s5, s6, s7, s8, s9, s10, .val (.sc (.bytes x)), s12, s13] l0_law = some ([s0, s1, s2, s3, s4, s5, s6, s7, s8, s9, s10, .val (.sc (.bytes x)), s12, s13], .next) := by
  have e1 : slice (.sc (.bytes x)) none (some 2) = some (.sc (.bytes [61, 63])) := by rw [sl_0n_bytes (l := x) (b := 2) (j := 2) rfl (by omega), h2]
  have e2 : slice (.sc (.bytes x)) (some (-2)) none = some (.sc (.bytes [63, 61])) := by rw [sl_neg_bytes (l := x) (k := 2) (i := -2) rfl (by omega) (by omega), h3]
  exact vcS [(0, fp e1), (1, fp e2), (1, fln h4)] (by kernel_rfl)
theorem loop_rows (F : Fns) {s0 s1 s2 s3 s4 s5 s6 s7 s8 s9 s10 s12 s13 : Slot} : ∀ (ws : List (List Nat)) (s11 : Slot), (∀ x ∈ ws, x.take 2 = [61, 63] ∧ x.drop (x.length - 2) = [63, 61] ∧ (x.filter (· == 63)).length = 4 ∧ x.length ≤ 60000) →
    ∃ s11', forGo (fun ρ => execs F Gl 1000 ρ l0_law) 11 (bL ws) [s0, s1, s2, s3, s4, s5, s6, s7, s8, s9, s10, s11, s12, s13] = some ([s0, s1, s2, s3, s4, s5, s6, s7, s8, s9, s10, s11', s12, s13], .next)
  | [], s11, _ => ⟨s11, rfl⟩
  | x :: r, s11, h => by
    obtain ⟨h2, h3, h4, h5⟩ := h x List.mem_cons_self
    obtain ⟨s11', e⟩ := loop_rows F (s0 := s0) (s1 := s1) (s2 := s2) (s3 := s3) (s4 := s4) (s5 := s5) (s6 := s6) (s7 := s7) (s8 := s8) (s9 := s9) (s10 := s10) (s12 := s12) (s13 := s13) r (.val (.sc (.bytes x))) fun y hy => h y (List.mem_cons_of_mem _ hy)
    refine ⟨s11', ?_⟩
    have t := turn_row F (s0 := s0) (s1 := s1) (s2 := s2) (s3 := s3) (s4 := s4) (s5 := s5) (s6 := s6) (s7 := s7) (s8 := s8) (s9 := s9) (s10 := s10) (s12 := s12) (s13 := s13) h2 h3 h4 h5
    rw [show bL (x :: r) = .bytes x :: bL r from rfl]
    exact f_next t e
theorem turn_part (n : Nat) {s0 s1 s2 s3 s4 s5 s6 s7 s8 s9 s10 s11 s13 : Slot} {x : List Nat} (ht : okT x) (hl : x.length ≤ 700) (h : ndy x = []) :
    execs (FF (n + 9)) Gl 1000 [s0, s1, s2, s3, s4, s5, s6, s7, s8, s9, s10, s11, .val (.sc (.str x)), s13] l1_law = some ([s0, s1, s2, s3, s4, s5, s6, s7, s8, s9, s10, s11, .val (.sc (.str x)), s13], .next) := by
  have e1 := run_ew0 n ht hl h
  have e2 := run_oa (n + 6) ht (fun c hc => by
    obtain ⟨i, hi⟩ := List.getElem?_of_mem hc
    exact lt_of_need hi (ndy_none h i (List.getElem?_eq_some_iff.mp hi).1)) (by omega)
  unfold asciiL at e2
  have b1 : (x == x) = true := beq_self_eq_true x
  exact vcS [(0, fp e1), (0, fp e2), (0, fn b1)] (by kernel_rfl)
theorem in_two {x : List Nat} (h : x = [] ∨ x = [32]) : pvIn (.sc (.bytes x)) (.tup [.bytes [], .bytes [32]]) = some true := by
  rcases h with rfl | rfl <;> rfl
theorem last_two {l : List Nat} (h : l = [] ∨ l[l.length - 1]? = some 32) : l.drop (l.length - 1) = [] ∨ l.drop (l.length - 1) = [32] := by
  rcases h with rfl | h
  · exact .inl rfl
  · right
    have hlt := (List.getElem?_eq_some_iff.mp h).1
    rw [List.drop_eq_getElem_cons hlt]
    rw [List.getElem?_eq_getElem hlt] at h
    rw [Option.some.inj h, List.drop_of_length_le (by omega (splitDisjunctions := true))]
theorem first_two {l : List Nat} (h : l = [] ∨ l[0]? = some 32) : l.take 1 = [] ∨ l.take 1 = [32] := by
  rcases h with rfl | h
  · exact .inl rfl
  · right
    rcases l with _ | ⟨x, r⟩
    ·
      cases h
    ·
      simp at h; simp [h]
noncomputable abbrev start (t : List Nat) : List Slot := [.un, .un, .val (.sc (.str t)), .un, .un, .un, .un, .un, .un, .un, .un, .un, .un, .un]
theorem law_none (n : Nat) {t : List Nat} (ht : okT t) (hl : t.length ≤ 390) (h : ndy t = []) : (execs (FF (n + 9)) Gl 1000 (start t) b_law).bind fin = some (.sc (.bool true)) := by
  have e1 := comp_law (n + 8) (t := t) (by omega) (s0 := .un) (s1 := .un) (s3 := .un) (s4 := .un) (s5 := .un) (s6 := .un) (s7 := .un) (s8 := .un) (s9 := .un) (s10 := .un) (s11 := .un) (s12 := .un) (s13 := .un)
  rw [h] at e1
  have e2 := run_span0 (n + 7) (t := t) (by omega) h
  have e3 := run_ew0 n ht (by omega) h
  have e4 := run_oa (n + 6) ht (fun c hc => by
    obtain ⟨i, hi⟩ := List.getElem?_of_mem hc
    exact lt_of_need hi (ndy_none h i (List.getElem?_eq_some_iff.mp hi).1)) (by omega)
  unfold asciiL at e4
  have b1 : (t == t) = true := beq_self_eq_true t
  exact vcF [(0, fw e1), (0, fp e2), (0, fp e3), (2, fp e4), (0, fq b1)] (by kernel_rfl)
theorem shorter_way (k : Cs) (t : List Nat) : ∃ w, shorter k t = words k w t := by
  unfold shorter
  split
  · exact ⟨.b, rfl⟩
  · exact ⟨.q, rfl⟩
theorem cuts_ne (f : Nat → Nat) (room : Nat) : ∀ (r cur : List Nat) (used : Nat), cuts f room cur used r ≠ []
  | [], cur, used => by simp [cuts]
  | c :: r, cur, used => by
    unfold cuts
    split
    · simp
    · exact cuts_ne f room r _ _
theorem words_len2 (k : Cs) (w : Wy) {t : List Nat} (ht : t.length ≤ 400) : (words k w t).length ≤ 50000 := by
  have h := joinL_le 75 [32] (wordsL k w t) fun x hx => by
    obtain ⟨y, hy, rfl⟩ := List.mem_map.mp hx
    exact words_ok k w y hy
  have h2 := cuts_len (sz k w) (rm k w) t [] 0
  unfold words
  unfold wordsL at h ⊢
  rw [List.length_map] at h
  simp at h
  omega
theorem law_some (n : Nat) {t : List Nat} {a z : Nat} (ht : okT t) (hl : t.length ≤ 390) (ha : (ndy t)[0]? = some a) (hz : (ndy t).getLast? = some z) : (execs (FF (n + 9)) Gl 1000 (start t) b_law).bind fin = some (.sc (.bool true)) := by
  have ha' := ndy_lt (List.mem_of_getElem? ha)
  have hz' := ndy_lt (List.mem_of_getLast? hz)
  have hB := rowB_le t a
  have hE := rowE_le t (e := z + 1) (by omega)
  have hEz : z + 1 ≤ rowE t (z + 1) := by unfold rowE; omega
  have haz : a ≤ z := by
    apply Classical.byContradiction
    intro hn
    have := filter_last hz a (by omega) ha'.1
    rw [ha'.2] at this; cases this
  have nB : ∀ i, i < rowB t a → need t i = false := fun i hi => filter_first ha i (Nat.zero_le _) (by omega)
  have nE : ∀ i, rowE t (z + 1) ≤ i → i < t.length → need t i = false := fun i hi hj => filter_last hz i (by omega) hj
  have h1 : ∀ c ∈ t.take (rowB t a), c < 128 := fun c hc => by
    obtain ⟨i, hi⟩ := List.getElem?_of_mem hc
    have hlt := (List.getElem?_eq_some_iff.mp hi).1
    simp only [List.length_take] at hlt
    rw [List.getElem?_take, if_pos (by omega)] at hi
    exact lt_of_need hi (nB i (by omega))
  have h2 : ∀ c ∈ t.drop (rowE t (z + 1)), c < 128 := fun c hc => by
    obtain ⟨i, hi⟩ := List.getElem?_of_mem hc
    have hlt := (List.getElem?_eq_some_iff.mp hi).1
    simp only [List.length_drop] at hlt
    rw [List.getElem?_drop] at hi
    exact lt_of_need hi (nE _ (by omega) (by omega))
  have kB := rowB_blank t a
  have kE := rowE_blank t (e := z + 1) (by omega)
  have e2 := run_span (n + 7) (t := t) (by omega) ha hz
  have e3 := run_ew n ht (by omega) ha hz h1 h2
  have e4 := run_lrb (n + 8) (t := t) (b := a) (by omega) (by omega)
  have e5 := run_lre (n + 8) (t := t) (e := z + 1) (by omega) (by omega)
  generalize rowB t a = B at *
  generalize rowE t (z + 1) = E at *
  have hM : okT ((t.drop B).take (E - B)) := fun c hc => ht c (List.mem_of_mem_drop (List.mem_of_mem_take hc))
  have hlM : ((t.drop B).take (E - B)).length ≤ 390 := by simp; omega
  have hkM := best_has ((t.drop B).take (E - B))
  have e6 := run_oa (n + 6) (t := t.take B) (fun c hc => ht c (List.mem_of_mem_take hc)) h1 (by simp; omega)
  have e7 := run_oa (n + 6) (t := t.drop E) (fun c hc => ht c (List.mem_of_mem_drop hc)) h2 (by simp; omega)
  unfold asciiL at e6 e7
  have s1 := sl_0n_str (l := t) (b := B) rfl (by omega)
  have s2 := sl_n0_str (l := t) (a := E) rfl (by omega)
  have s3 := sl_nn_str (l := t) (a := B) (b := E) rfl rfl (by omega) (by omega)
  obtain ⟨p1, p2, p3⟩ := part_ok (t := t) (o := 0) (m := B) (by omega) (fun i _ hi => nB i (by omega)) ht
  obtain ⟨p4, p5, p6⟩ := part_ok (t := t) (o := E) (m := t.length - E) (by omega) (fun i hi hj => nE i hi (by omega)) ht
  rw [List.drop_zero] at p1 p2 p3
  rw [List.take_of_length_le (by simp)] at p4 p5 p6
  generalize hMd : (t.drop B).take (E - B) = M at *
  generalize bestK M = k at *
  obtain ⟨w, hw⟩ := shorter_way k M
  rw [hw] at e3
  have hwl := words_len k w (t := M) (by omega)
  have hX := cuts_flat (sz k w) (rm k w) M [] 0
  have hXn := cuts_len (sz k w) (rm k w) M [] 0
  have hXe := cuts_ne (sz k w) (rm k w) M [] 0
  have hXw : ∀ y ∈ cuts (sz k w) (rm k w) [] 0 M, okT y ∧ hasT k y ∧ (word k w y).length ≤ 75 := fun y hy =>
    ⟨fun c hc => hM c (cuts_mem _ _ hy c hc), fun c hc => hkM c (cuts_mem _ _ hy c hc), words_ok k w y hy⟩
  have hwd : words k w M = joinL [32] ((cuts (sz k w) (rm k w) [] 0 M).map (word k w)) := rfl
  rw [List.nil_append] at hX
  have e8 := run_dw (n + 2) k w (X := cuts (sz k w) (rm k w) [] 0 M) hXe hXw (by omega) (by rw [← hwd]; exact words_len2 k w (by omega)) (by rw [hX]; omega)
  rw [← hwd, hX] at e8
  have hsp : splitL 32 (words k w M) = wordsL k w M := by
    rw [hwd]
    unfold wordsL
    cases q : cuts (sz k w) (rm k w) [] 0 M with
    | nil => exact (hXe q).elim
    | cons x r =>
      rw [List.map_cons]
      refine split_join 32 _ _ fun y hy => ?_
      rw [← List.map_cons, ← q] at hy
      obtain ⟨v, hv, rfl⟩ := List.mem_map.mp hy
      obtain ⟨o1, o2, _⟩ := hXw v hv
      exact (word_facts k w o1 o2).1
  have hrow : ∀ x ∈ wordsL k w M, x.take 2 = [61, 63] ∧ x.drop (x.length - 2) = [63, 61] ∧ (x.filter (· == 63)).length = 4 ∧ x.length ≤ 60000 := fun x hx => by
    obtain ⟨v, hv, rfl⟩ := List.mem_map.mp hx
    obtain ⟨o1, o2, o3⟩ := hXw v hv
    obtain ⟨_, f1, f2, f3⟩ := word_facts k w o1 o2
    exact ⟨f1, f2, f3, by omega⟩
  have hmk : mkL ((wordsL k w M).map .bytes) = some (.lst (bL (wordsL k w M))) := mkL_ok (by unfold wordsL; simp; omega)
  generalize words k w M = S at *
  generalize wordsL k w M = ws at *
  -- the told octets, cut
  have lA : (t.take B).length = B := by simp; omega
  generalize hA : t.take B = A at *
  generalize hC : t.drop E = C at *
  have c1 : slice (.sc (.bytes A)) (some (-1)) none = some (.sc (.bytes (A.drop (A.length - 1)))) := sl_neg_bytes (k := 1) (i := -1) rfl (by omega) (by omega)
  have c2 : slice (.sc (.bytes C)) none (some 1) = some (.sc (.bytes (C.take 1))) := sl_0n_bytes (b := 1) (j := 1) rfl (by omega)
  have c3 := in_two (last_two (l := A) (by
    by_cases hB0 : B = 0
    · left; rw [← List.length_eq_zero_iff]; omega
    · right
      rw [lA, ← hA, List.getElem?_take, if_pos (by omega)]
      exact kB.resolve_left hB0))
  have c4 := in_two (first_two (l := C) (by
    rcases kE with kE | kE
    · left; rw [← hC, kE, List.drop_length]
    · right
      rw [← hC, List.getElem?_drop]; exact kE))
  have lC : C.length ≤ 390 := by rw [← hC, List.length_drop]; omega
  have c5 : slice (.sc (.bytes (A ++ S ++ C))) none (some (A.length : Int)) = some (.sc (.bytes A)) := by
    rw [sl_0n_bytes (b := A.length) rfl (by omega), List.append_assoc, List.take_left]
  have c6 : slice (.sc (.bytes (A ++ S ++ C))) (some (((A ++ S ++ C).length : Int) - (C.length : Int))) none = some (.sc (.bytes C)) := by
    rw [sl_n0_bytes (a := (A ++ S).length) (by simp; omega) (by simp; omega), List.drop_left]
  have c7 : slice (.sc (.bytes (A ++ S ++ C))) (some (A.length : Int)) (some (((A ++ S ++ C).length : Int) - (C.length : Int))) = some (.sc (.bytes S)) := by
    rw [sl_nn_bytes (a := A.length) (b := (A ++ S).length) rfl (by simp; omega) (by omega) (by simp; omega), List.append_assoc, List.drop_left, show (A ++ S).length - A.length = S.length by simp, List.take_left]
  have b1 : (A == A) = true := beq_self_eq_true A
  have b2 : (C == C) = true := beq_self_eq_true C
  have b3 : (M == M) = true := beq_self_eq_true M
  have hlen : (ndy t).length ≤ t.length := by
    unfold ndy
    refine Nat.le_trans (List.length_filter_le _ _) ?_
    simp
  have d2 : (nI (ndy t)).isEmpty = false := by
    cases q : ndy t with
    | nil => rw [q] at ha; simp at ha
    | cons x r => rfl
  have i0 : index (.lst (nI (ndy t))) (.sc (.int 0)) = some (.sc (.int (a : Int))) := idx_nI (k := 0) ha (by omega)
  have i1 : index (.lst (nI (ndy t))) (.sc (.int (-1))) = some (.sc (.int (z : Int))) := idx_last_nI hz (by omega)
  have e1 := comp_law (n + 8) (t := t) (by omega) (s0 := .un) (s1 := .un) (s3 := .un) (s4 := .un) (s5 := .un) (s6 := .un) (s7 := .un) (s8 := .un) (s9 := .un) (s10 := .un) (s11 := .un) (s12 := .un) (s13 := .un)
  obtain ⟨s11', r1⟩ := loop_rows (FF (n + 9)) (s0 := .un) (s1 := .un) (s2 := .val (.sc (.str t))) (s3 := .un) (s4 := .val (.lst (nI (ndy t)))) (s5 := .val (.sc (.int (B : Int)))) (s6 := .val (.sc (.int (E : Int)))) (s7 := .val (.sc (.bytes (A ++ S ++ C)))) (s8 := .val (.sc (.bytes A))) (s9 := .val (.sc (.bytes C))) (s10 := .val (.sc (.bytes S))) (s12 := .un) (s13 := .un) ws .un hrow
  have f : forGo (fun ρ => execs (FF (n + 9)) Gl 1000 ρ l1_law) 12 [.str (stripL 32 A), .str (stripL 32 C)] [.un, .un, .val (.sc (.str t)), .un, .val (.lst (nI (ndy t))), .val (.sc (.int (B : Int))), .val (.sc (.int (E : Int))), .val (.sc (.bytes (A ++ S ++ C))), .val (.sc (.bytes A)), .val (.sc (.bytes C)), .val (.sc (.bytes S)), s11', .un, .un] =
      some ([.un, .un, .val (.sc (.str t)), .un, .val (.lst (nI (ndy t))), .val (.sc (.int (B : Int))), .val (.sc (.int (E : Int))), .val (.sc (.bytes (A ++ S ++ C))), .val (.sc (.bytes A)), .val (.sc (.bytes C)), .val (.sc (.bytes S)), s11', .val (.sc (.str (stripL 32 C))), .un], .next) :=
    f_next (turn_part n p2 (by omega) p1) (f_next (turn_part n p5 (by omega) p4) rfl)
  have sp : meF .split (.sc (.bytes S)) [.sc (.bytes [32])] = some (.lst (bL ws)) := by
    show mkL ((splitL 32 S).map .bytes) = _
    rw [hsp]; exact hmk
  have b4 : pvEqT (.tup [.int (B : Int), .int (E : Int)]) (.tup [.int (B : Int), .int (E : Int)]) = some true := by
    show some ((B : Int) == (B : Int) && (E : Int) == (E : Int)) = _
    rw [beq_self_eq_true, beq_self_eq_true]; rfl
  exact vcF [(0, fw e1), (0, fp e2), (0, fp e3), (0, fq d2), (0, fp i0), (0, fp e4), (0, fp i1), (1, fp e5), (0, fbn b4), (0, fp s1), (0, fp e6), (0, fp s2), (0, fp e7), (0, fp c1), (0, fbn c3), (0, fp c2), (0, fbn c4), (1, fp c5), (0, fn b1), (3, fp c6), (0, fn b2), (4, fp c7), (0, fp sp), (1, fs r1), (0, fp e8), (0, fp s3), (0, fn b3), (0, fp s1), (1, fp s2), (2, fs f)] (by kernel_rfl)
theorem law_true (n : Nat) {t : List Nat} (ht : okT t) (hl : t.length ≤ 390) : (execs (FF (n + 9)) Gl 1000 (start t) b_law).bind fin = some (.sc (.bool true)) := by
  cases q : ndy t with
  | nil => exact law_none n ht hl q
  | cons a r =>
    obtain ⟨z, hz⟩ : ∃ z, (ndy t).getLast? = some z := ⟨(a :: r).getLast (by simp), by rw [q, List.getLast?_eq_some_getLast]⟩
    exact law_some n ht hl (a := a) (z := z) (by rw [q]; rfl) hz
theorem law_ok (n : Nat) {t : List Nat} (ht : okT t) (hl : t.length ≤ 390) : ∃ ρ', execs (FF (n + 9)) Gl 1000 (start t) b_law = some (ρ', .ret (.sc (.bool true))) := by
  have h := law_true n ht hl
  cases q : execs (FF (n + 9)) Gl 1000 (start t) b_law with
  | none => rw [q] at h; cases h
  | some x =>
    obtain ⟨ρ', o⟩ := x
    rw [q] at h
    simp only [Option.bind_some, fin] at h
    induction o with
    | ret p => simp at h; subst h; exact ⟨ρ', rfl⟩
    | next => simp at h
    | brk => simp at h
    | cont => simp at h
end Mine

end
section
set_option Elab.async false
set_option autoImplicit false
set_option maxRecDepth 4000
set_option linter.unusedSimpArgs false
set_option linter.unusedVariables false
namespace Mine
theorem iop_modI (a b : Int) (h : 0 < b) : iop .mod a b = some (Int.fmod a b) := by
  simp only [iop]
  rw [if_pos (by omega)]
theorem iop_fdivI (a b : Int) (h : 0 < b) (h2 : b < 1000000) : iop .fdiv a b = some (Int.fdiv a b) := by
  simp only [iop]
  rw [if_pos (by omega (splitDisjunctions := true))]
theorem iop_mulL (a b : Int) (h : a.natAbs < 2 ^ 63) : iop .mul a b = some (a * b) := by
  simp only [iop]
  rw [if_pos (.inr h)]
theorem iop_mulR (a b : Int) (h : b.natAbs < 2 ^ 63) : iop .mul a b = some (a * b) := by
  simp only [iop]
  rw [if_pos (.inl h)]
theorem iop_powI (a b : Int) (h : 0 ≤ b) (h2 : b ≤ 1000000) (h3 : a.natAbs < 2 ^ 64) : iop .pow a b = some (a ^ b.toNat) := by
  simp only [iop]
  rw [if_pos ⟨h, h2, h3⟩]
theorem fmod_bd (a b : Int) (h : 0 < b) : 0 ≤ Int.fmod a b ∧ Int.fmod a b < b := by
  rw [Int.fmod_eq_emod_of_nonneg _ (by omega)]
  exact ⟨Int.emod_nonneg _ (by omega), Int.emod_lt_of_pos _ h⟩
theorem fdiv_bd (a b : Int) (ha : 0 ≤ a) (h : 0 < b) : 0 ≤ Int.fdiv a b := by
  rw [Int.fdiv_eq_ediv_of_nonneg _ (by omega)]
  exact Int.ediv_nonneg ha (by omega)
theorem intsOf_map : ∀ ns : List Int, intsOf (ns.map Sc.int) = some ns
  | [] => rfl
  | x :: r => by simp only [List.map_cons, intsOf, intsOf_map r, Option.map_some]
theorem cell_ok {cs : List Int} {a : Nat} (h : cs ≠ []) (hl : cs.length ≤ 60000) : ∃ c, index (.lst (cs.map Sc.int)) (.sc (.int (Int.fmod (a : Int) (cs.length : Int)))) = some (.sc (.int c)) := by
  have hpos : 0 < cs.length := List.length_pos_iff.mpr h
  have e : Int.fmod (a : Int) (cs.length : Int) = ((a % cs.length : Nat) : Int) := by
    rw [Int.fmod_eq_emod_of_nonneg _ (by omega)]; rfl
  have hlt := Nat.mod_lt a hpos
  refine ⟨cs[a % cs.length], ?_⟩
  refine idx_lst (k := a % cs.length) ?_ (by simpa using by omega) e
  simp [hlt]
theorem stir_bd {s : Int} {a : Nat} (h0 : 0 ≤ s) (h1 : s < 2147483629) (ha : a ≤ 1000) : (s * (2 * (a : Int) + 7207) + 20947 * (a : Int) * (a : Int) + 31).natAbs < 2 ^ 64 := by
  obtain ⟨n, rfl⟩ := Int.eq_ofNat_of_zero_le h0
  have e : ((n : Int) * (2 * (a : Int) + 7207) + 20947 * (a : Int) * (a : Int) + 31) = ((n * (2 * a + 7207) + 20947 * a * a + 31 : Nat) : Int) := by
    simp
  rw [e, Int.natAbs_natCast]
  have h2 : n * (2 * a + 7207) ≤ 2147483629 * 9207 := Nat.mul_le_mul (by omega) (by omega)
  have h3 : 20947 * a * a ≤ 20947 * 1000 * 1000 := Nat.mul_le_mul (by omega) ha
  omega
theorem draw_big (F : Fns) {p : Nat} {cs : List Int} {a b m : Int} (hm : 0 < m) (hm2 : m ≤ 100) (hb : 0 < b) :
    execs F Gl 1000 [.own (.pen p cs a b), .val (.sc (.int m)), .un, .un, .un, .un, .un] b_law_draw = some ([.own (.pen p cs a (Int.fdiv b m)), .val (.sc (.int m)), .val (.sc (.int (Int.fmod b m))), .un, .un, .un, .un], .ret (.sc (.int (Int.fmod b m)))) := by
  have e1 : ((0 : Int) < b) = True := eq_true hb
  have e2 := iop_modI b m hm
  have e3 := iop_fdivI b m hm (by omega)
  exact vcS [(1, ft' e1), (2, fo e2), (2, fo e3)] (by kernel_rfl)
theorem sl_01_ints (cs : List Int) : slice (.lst (cs.map Sc.int)) none (some 1) = some (.lst ((cs.take 1).map Sc.int)) := by
  rw [sl_lst _ (by decide)]
  have := cut_none_nat (cs.map Sc.int) 1
  simp only [Int.natCast_one] at this
  show some (PV.lst (cutL (cs.map Sc.int) none (some 1))) = _
  rw [this, List.map_take]
theorem draw_small (F : Fns) {p : Nat} {cs : List Int} {a : Nat} {b m : Int} (hm : 0 < m) (hm2 : m ≤ 100) (hb : b ≤ 0) (hb0 : 0 ≤ b) (ha : a ≤ 900) (hl : cs.length ≤ 1000) :
    ∃ b' d s2 s3 s4 s5 s6, execs F Gl 1000 [.own (.pen p cs (a : Int) b), .val (.sc (.int m)), .un, .un, .un, .un, .un] b_law_draw = some ([.own (.pen p cs ((a + 1 : Nat) : Int) b'), .val (.sc (.int m)), s2, s3, s4, s5, s6], .ret (.sc (.int d))) ∧ 0 ≤ d ∧ d < m ∧ 0 ≤ b' := by
  have e1 : ((0 : Int) < b) = False := eq_false (by omega)
  have e2 := iop_mulR 20947 (a : Int) (by omega)
  have e3 := sl_01_ints cs
  have e4 : biF .sum [.lst ((cs.take 1).map Sc.int)] = some (.sc (.int (cs.take 1).sum)) := by
    show (intsOf ((cs.take 1).map Sc.int)).map _ = _
    rw [intsOf_map]; rfl
  have e5 := iop_modI (cs.take 1).sum 1000003 (by decide)
  have e6 : (cs.map Sc.int).isEmpty = cs.isEmpty := by cases cs <;> rfl
  have p1 := iop_mulL 2 (a : Int) (by decide)
  have p2 := iop_mulR (20947 * (a : Int)) (a : Int) (by omega)
  -- the tail
  have tail : ∀ c : Int, ∃ s1 s2 q d, iop .pow (Int.fmod c 2147483587 + 20947 * (a : Int) + 3571) 5 = some s1 ∧ ∃ s1', iop .mod s1 2147483629 = some s1' ∧ iop .mul s1' (2 * (a : Int) + 7207) = some (s1' * (2 * (a : Int) + 7207)) ∧
      iop .pow (s1' * (2 * (a : Int) + 7207) + 20947 * (a : Int) * (a : Int) + 31) 3 = some s2 ∧ ∃ s2', iop .mod s2 2147483579 = some s2' ∧ iop .fdiv s2' 32 = some q ∧ iop .mod q m = some d ∧ 0 ≤ d ∧ d < m := by
    intro c
    obtain ⟨h1, h2⟩ := fmod_bd c 2147483587 (by decide)
    have t1 := iop_powI (Int.fmod c 2147483587 + 20947 * (a : Int) + 3571) 5 (by decide) (by decide) (by omega)
    generalize (Int.fmod c 2147483587 + 20947 * (a : Int) + 3571) ^ (5 : Int).toNat = s1 at t1
    obtain ⟨g1, g2⟩ := fmod_bd s1 2147483629 (by decide)
    have t2 := iop_modI s1 2147483629 (by decide)
    generalize Int.fmod s1 2147483629 = s1' at *
    have t3 := iop_mulR s1' (2 * (a : Int) + 7207) (by omega)
    have t4 := iop_powI (s1' * (2 * (a : Int) + 7207) + 20947 * (a : Int) * (a : Int) + 31) 3 (by decide) (by decide) (stir_bd g1 g2 (by omega))
    generalize (s1' * (2 * (a : Int) + 7207) + 20947 * (a : Int) * (a : Int) + 31) ^ (3 : Int).toNat = s2 at t4
    exact ⟨s1, s2, _, _, t1, s1', t2, t3, t4, _, iop_modI s2 2147483579 (by decide), iop_fdivI _ 32 (by decide) (by decide), iop_modI _ m hm, (fmod_bd _ m hm).1, (fmod_bd _ m hm).2⟩
  cases hcs : cs.isEmpty with
  | true =>
    have hn : cs = [] := List.isEmpty_iff.mp hcs
    subst hn
    obtain ⟨s1, s2, q, d, t1, s1', t2, t3, t4, s2', t5, t6, t7, d1, d2⟩ := tail (20947 * (a : Int) + 3571 + Int.fmod ((([] : List Int).take 1).sum) 1000003)
    have l1 : ((a : Int) < ((([] : List Int).map Sc.int).length : Int)) = False := eq_false (by simp)
    refine ⟨b, d, .un, .val (.sc (.int (a : Int))), .val (.sc (.int (20947 * (a : Int) + 3571 + Int.fmod ((([] : List Int).take 1).sum) 1000003))), .un, .val (.sc (.int s2')), ?_, d1, d2, hb0⟩
    have e7 := iop_modI (20947 * (a : Int) + 3571 + Int.fmod ((([] : List Int).take 1).sum) 1000003) 2147483587 (by decide)
    exact vcS [(1, ff' e1), (3, fo e2), (2, fp e3), (0, fp e4), (1, fo e5), (2, fn (e6.trans hcs)), (2, ff' l1), (1, fo e7), (0, fo e2), (2, fo t1), (1, fo t2), (0, fo p1), (1, fo t3), (0, fo e2), (0, fo p2), (2, fo t4), (1, fo t5), (0, fo t6), (1, fo t7)] (by kernel_rfl)
  | false =>
    have hne : cs ≠ [] := by rintro rfl; cases hcs
    obtain ⟨c, hc⟩ := cell_ok (a := a) hne (by omega)
    have hlen : (cs.map Sc.int).length = cs.length := by simp
    have f1 : iop .mod (a : Int) (cs.length : Int) = some (Int.fmod (a : Int) (cs.length : Int)) := iop_modI _ _ (by have := List.length_pos_iff.mpr hne; omega)
    by_cases hg : (a : Int) < (cs.length : Int) ∧ (1000000000000000000 : Int) ≤ (if c < 0 then -c else c)
    · have l1 : ((a : Int) < (cs.length : Int)) = True := eq_true hg.1
      have l2 : ((1000000000000000000 : Int) ≤ (if c < 0 then -c else c)) = True := eq_true hg.2
      have g1 := iop_mulL 2 ((if c < 0 then -c else c) - 1000000000000000000) (by decide)
      have hgr : 0 ≤ 2 * ((if c < 0 then -c else c) - 1000000000000000000) + (if decide (c < 0) = true then 1 else 0) := by
        have := hg.2
        generalize (if c < 0 then -c else c) = x at *
        split <;> omega
      generalize hgg : 2 * ((if c < 0 then -c else c) - 1000000000000000000) + (if decide (c < 0) = true then 1 else 0) = g at *
      have g2 := iop_fdivI g m hm (by omega)
      have g3 := iop_modI g m hm
      refine ⟨Int.fdiv g m, Int.fmod g m, .un, .val (.sc (.int (a : Int))), .val (.sc (.int c)), .val (.sc (.int g)), .un, ?_, (fmod_bd g m hm).1, (fmod_bd g m hm).2, fdiv_bd g m hgr hm⟩
      exact vcS [(1, ff' e1), (3, fo e2), (2, fp e3), (0, fp e4), (1, fo e5), (2, fn (e6.trans hcs)), (3, fln hlen), (0, fo f1), (0, fp hc), (1, fln hlen), (0, ft' l1), (2, ft' l2), (3, fo g1), (2, fi hgg), (1, fo g2), (2, fo g3)] (by kernel_rfl)
    · obtain ⟨s1, s2, q, d, t1, s1', t2, t3, t4, s2', t5, t6, t7, d1, d2⟩ := tail c
      have e7 := iop_modI c 2147483587 (by decide)
      by_cases hl1 : (a : Int) < (cs.length : Int)
      · have l1 : ((a : Int) < (cs.length : Int)) = True := eq_true hl1
        have l2 : ((1000000000000000000 : Int) ≤ (if c < 0 then -c else c)) = False := eq_false fun h => hg ⟨hl1, h⟩
        refine ⟨b, d, .un, .val (.sc (.int (a : Int))), .val (.sc (.int c)), .un, .val (.sc (.int s2')), ?_, d1, d2, hb0⟩
        exact vcS [(1, ff' e1), (3, fo e2), (2, fp e3), (0, fp e4), (1, fo e5), (2, fn (e6.trans hcs)), (3, fln hlen), (0, fo f1), (0, fp hc), (1, fln hlen), (0, ft' l1), (2, ff' l2), (1, fo e7), (0, fo e2), (2, fo t1), (1, fo t2), (0, fo p1), (1, fo t3), (0, fo e2), (0, fo p2), (2, fo t4), (1, fo t5), (0, fo t6), (1, fo t7)] (by kernel_rfl)
      · have l1 : ((a : Int) < (cs.length : Int)) = False := eq_false hl1
        refine ⟨b, d, .un, .val (.sc (.int (a : Int))), .val (.sc (.int c)), .un, .val (.sc (.int s2')), ?_, d1, d2, hb0⟩
        exact vcS [(1, ff' e1), (3, fo e2), (2, fp e3), (0, fp e4), (1, fo e5), (2, fn (e6.trans hcs)), (3, fln hlen), (0, fo f1), (0, fp hc), (1, fln hlen), (0, ff' l1), (1, fo e7), (0, fo e2), (2, fo t1), (1, fo t2), (0, fo p1), (1, fo t3), (0, fo e2), (0, fo p2), (2, fo t4), (1, fo t5), (0, fo t6), (1, fo t7)] (by kernel_rfl)
end Mine

end
section
open PySem PySem.W PyProof.Rows PySem.Calls
open PySem.SeqAt PySem.SeqRoads2
set_option Elab.async false
set_option autoImplicit false
namespace Mine
section
variable {prog : Program} {w : World} {hB : Heap} {K : Frag} {F : Fns} {G : Gls} {n fuel : Nat}
variable {nm : Nms} {sl : Sls} {ρ : List Slot} {Wo W : List Addr} {env : Env} {oa : Nat → Addr}

noncomputable abbrev PenAt (V : List Addr) (h : Heap) (p : Addr) (cs : List Int) (a b : Int) : Prop := RepPen V h p cs a b (.ref p)

/-- a thing that a name holds becomes its own -/
theorem Sx.adopt {i : Nat} {x : Str} {p : Addr} {P : PV} {h : Heap} (X : Sx prog w hB nm sl ρ Wo W env oa h) (hi : sl[i]? = some (some x)) (hv : ρ[i]? = some (.val P)) (ho : ∀ (j : Nat) (q : PV), ρ[j]? ≠ some (Slot.own q)) (hl : Loads env h x (.ref p))
    (hr : Rep prog w (Wo ++ W) h P (.ref p)) (hn : hB.get? p = none) (hp : ∃ o, h.get? p = some o)
    (hO : ∀ (j : Nat) (q : PV) (v : Value), j ≠ i → ρ[j]? = some (.val q) → Rep prog w (Wo ++ W) h q v → Rep prog w (Wo ++ p :: W) h q v) :
    Sx prog w hB nm sl (ρ.set i (.own P)) Wo (p :: W) env (fun _ => p) h := by
  have hpV : p ∉ Wo ++ W := rep_notin hr
  have hpW : p ∉ W := fun m => hpV (List.mem_append_right _ m)
  have sub : ∀ b, b ∈ Wo ++ p :: W → b = p ∨ b ∈ Wo ++ W := fun b hb => by
    replace hb := List.mem_append.mp hb
    rcases hb with hb | hb
    · exact .inr (List.mem_append_left _ hb)
    · replace hb := List.mem_cons.mp hb
      rcases hb with rfl | hb
      · exact .inl rfl
      · exact .inr (List.mem_append_right _ hb)
  have noown : ∀ {j : Nat} {q : PV}, (ρ.set i (.own P))[j]? = some (.own q) → j = i ∧ q = P := fun {j q} hj => by
    replace hj := set_get hj
    rcases hj with ⟨e, e'⟩ | ⟨_, hj⟩
    · cases e'; exact ⟨e, rfl⟩
    · exact (ho j q hj).elim
  refine { st := X.st, base := X.base, live := ?_, new := ?_, len := by simpa using X.len, loc := ⟨List.mem_cons_of_mem _ X.loc.1, X.loc.2⟩, cell := fun y c hc => ⟨List.mem_cons_of_mem _ (X.cell y c hc).1, (X.cell y c hc).2⟩, val := ?_, own := ?_, oinj := ?_, osep := ?_ }
  · intro b hb
    rcases sub b hb with rfl | hb
    · exact hp
    · exact X.live b hb
  · intro b hb
    rcases sub b hb with rfl | hb
    · exact hn
    · exact X.new b hb
  · intro j y q hj hq
    replace hq := set_get hq
    rcases hq with ⟨_, e⟩ | ⟨hne, hq⟩
    · cases e
    · obtain ⟨v, l, r⟩ := X.val j y q hj hq
      exact ⟨v, l, hO j q v hne hq r⟩
  · intro j y q hj hq
    replace hq := noown hq
    obtain ⟨rfl, rfl⟩ := hq
    rw [hi] at hj; cases hj
    refine ⟨hl, List.mem_cons_self, hr.less fun b hb => ?_⟩
    replace hb := List.mem_append.mp hb
    rcases hb with hb | hb
    · exact List.mem_append_left _ hb
    · replace hb := mem_but.mp hb
      obtain ⟨hb, hne⟩ := hb
      replace hb := List.mem_cons.mp hb
      rcases hb with rfl | hb
      · exact (hne rfl).elim
      · exact List.mem_append_right _ hb
  · intro j k q q' hj hk _
    rw [(noown hj).1, (noown hk).1]
  · intro j q hj
    refine ⟨List.mem_cons_self, fun e => hpW (e ▸ X.loc.1), fun y c hc e => hpW (e ▸ (X.cell y c hc).1)⟩

/-- a call of a function whose body the small syntax has, that changes what stands at p alone -/
theorem call_own (T : Sys prog w hB K F G n) {d : FD} {fd : FuncData} {b : List Stmt} {f : Addr} {o : Obj} {args : List PV} {ρ' : List Slot} {r : PV} {A : Around} {s : Shared} {vs : List Value} {p : Addr} {cs : List Int} {x : Str} {a0 b0 a1 b1 : Int} {V : List Addr} {E : Value → Shared → Prop}
    (hc : fdChk K d fd b = true) (hb : fd.body = .stmts b) (ho : K.lookup f = some o) (hd : o.data = .func fd) (hdef : d.dfl = []) (hl : args.length = d.np) (hp : Paired (Rep prog w V s.heap) args vs) (hV : Live V s.heap) (hn : ∀ a ∈ V, hB.get? a = none)
    (h0 : args[0]? = some (.pen p cs a0 b0)) (hx0 : d.sl[0]? = some (some x)) (hsc : ∀ (j : Nat) (q : PV), j ≠ 0 → args[j]? = some q → ∃ c, q = .sc c) (hpn : hB.get? p = none)
    (hex : Mine.execs F G fuel ((args.map Slot.val ++ List.replicate (d.sl.length - d.np) Slot.un).set 0 (Slot.own (.pen p cs a0 b0))) d.body = some (ρ', .ret r)) (hr : ∃ c, r = .sc c) (h0' : ρ'[0]? = some (.own (.pen p cs a1 b1)))
    (R : Room (n + 1) A) (hx : Ext hB s.heap) :
    wpAny (model prog w) A (call (.ref f) vs) (fun v s' => Rep prog w V s'.heap r v ∧ PenAt V s'.heap p cs a1 b1 ∧ Fr [p] s s') E s := by
  replace hc := and_t hc
  obtain ⟨c0, hc0⟩ := hc
  refine enter T hc0 hb ho hd hdef hl hp R hx hV hn fun env s₁ W E' X kp hfresh R' => ?_
  have hv0 : (args.map Slot.val ++ List.replicate (d.sl.length - d.np) Slot.un)[0]? = some (.val (.pen p cs a0 b0)) := by
    have : 0 < args.length := (List.getElem?_eq_some_iff.mp h0).1
    rw [List.getElem?_append_left (by simpa using this), List.getElem?_map, h0]; rfl
  have noown : ∀ (j : Nat) (q : PV), (args.map Slot.val ++ List.replicate (d.sl.length - d.np) Slot.un)[j]? ≠ some (.own q) := fun j q h => by
    have := List.mem_of_getElem? h
    rcases List.mem_append.mp this with h | h
    · obtain ⟨_, _, e⟩ := List.mem_map.mp h; cases e
    · have := List.eq_of_mem_replicate h; cases this
  obtain ⟨v0, l0, r0⟩ := X.val 0 _ _ hx0 hv0
  have hv0' : v0 = .ref p := by obtain ⟨c, its, t, u, e, _⟩ := r0; exact e
  subst hv0'
  have hlive : ∃ o, s₁.heap.get? p = some o := by obtain ⟨c, its, t, u, e, _, ⟨o, ho, _⟩, _⟩ := r0; exact ⟨o, ho⟩
  have Y := X.adopt hx0 hv0 noown l0 r0 hpn hlive fun j q v hj hq hr => by
    have : ∃ c, q = .sc c := by
      by_cases hlt : j < args.length
      · rw [List.getElem?_append_left (by simpa using hlt), List.getElem?_map, Option.map_eq_some_iff] at hq
        obtain ⟨q', hq', e⟩ := hq
        cases e
        exact hsc j q hj hq'
      · rw [List.getElem?_append_right (by simpa using hlt), List.getElem?_replicate] at hq
        split at hq <;> cases hq
    obtain ⟨c, rfl⟩ := this
    exact hr
  refine wpAny_mono (bk_ok T d.body _ _ _ _ _ _ _ _ _ _ _ _ _ c0 hex Y R') (fun fl s' pst => ?_) fun _ _ e => e
  obtain ⟨W', oa', g, fr, X', hout⟩ := pst
  have hfr : Fr [p] s s' := by
    obtain ⟨h₁, t₁, rfl, e₁⟩ := kp
    obtain ⟨h₂, t₂, rfl, e₂⟩ := fr
    exact ⟨h₂, t₂, rfl, fun c o hcp e => e₂ c o (fun hm => by
      replace hm := List.mem_cons.mp hm
      rcases hm with rfl | hm
      · exact hcp (by simp)
      · rw [hfresh c hm] at e; cases e) (e₁ c o e)⟩
  obtain ⟨_, _, rp⟩ := X'.own 0 _ _ hx0 h0'
  have rp' := rp.less (V' := V) fun _ h => List.mem_append_left _ h
  have : oa' 0 = p := by obtain ⟨c, its, t, u, e, _⟩ := rp'; cases e; rfl
  rw [this] at rp'
  cases hout with
  | ret _ _ hr => exact ⟨hr, rp', hfr⟩
end
end Mine

end
section
open PySem PySem.W PyProof.Rows PySem.Calls
open PySem.SeqAt PySem.SeqRoads2
set_option Elab.async false
set_option autoImplicit false
set_option linter.unusedVariables false
namespace Mine
section
variable {prog : Program} {w : World} {hB : Heap} {K : Frag} {F : Fns} {G : Gls} {n fuel : Nat}

/-- the pen after at most k draws -/
noncomputable def PenS (V : List Addr) (h : Heap) (p : Addr) (cs : List Int) (k : Nat) : Prop := ∃ (a : Nat) (b : Int), PenAt V h p cs (a : Int) b ∧ a ≤ k ∧ 0 ≤ b
theorem draw_ok (T : Sys prog w hB K F G n) (hfn : fnChk K d_law_draw = true) {A : Around} {s : Shared} {f p : Addr} {cs : List Int} {k : Nat} {m : Int} {t : Tok} {V : List Addr} {E : Value → Shared → Prop} (hf : nsIn K mainGlobals (fnm 53) = some (some (.ref f)))
    (R : Room (n + 1) A) (hx : Ext hB s.heap) (hp : PenS V s.heap p cs k) (hV : Live V s.heap) (hn : ∀ a ∈ V, hB.get? a = none) (hk : k ≤ 900) (hm : 0 < m) (hm2 : m ≤ 100) (hl : cs.length ≤ 1000) (hpn : hB.get? p = none) :
    wpAny (model prog w) A (call (.ref f) [.ref p, .int m t]) (fun v s' => ∃ d, Sc.of v = some (.int d) ∧ 0 ≤ d ∧ d < m ∧ PenS V s'.heap p cs (k + 1) ∧ Fr [p] s s') E s := by
  replace hfn := fnChk_of hfn
  obtain ⟨f', o, fd, b, hf', ho, hd, hb, hc⟩ := hfn
  have hf' : nsIn K mainGlobals (fnm 53) = some (some (.ref f')) := hf'
  rw [hf] at hf'; cases hf'
  obtain ⟨a, b0, pa, ha, hb0⟩ := hp
  have pr : Paired (Rep prog w V s.heap) [.pen p cs (a : Int) b0, .sc (.int m)] [.ref p, .int m t] := .cons pa (.cons rfl .nil)
  have sc1 : ∀ (j : Nat) (q : PV), j ≠ 0 → [PV.pen p cs (a : Int) b0, .sc (.int m)][j]? = some q → ∃ c, q = .sc c := fun j q hj hq => by
    match j, hj, hq with
    | 0, hj, _ => exact (hj rfl).elim
    | 1, _, hq => cases hq; exact ⟨_, rfl⟩
    | j + 2, _, hq => simp at hq
  by_cases hb1 : 0 < b0
  · have ex := draw_big F (p := p) (cs := cs) (a := (a : Int)) hm hm2 hb1
    refine wpAny_mono (call_own (fuel := 1000) (r := .sc (.int (Int.fmod b0 m))) (a1 := (a : Int)) (b1 := Int.fdiv b0 m) T hc hb ho hd rfl rfl pr hV hn rfl rfl sc1 hpn ex ⟨_, rfl⟩ rfl R hx) (fun v s' h => ?_) fun _ _ e => e
    obtain ⟨h1, h2, h3⟩ := h
    exact ⟨Int.fmod b0 m, h1, (fmod_bd b0 m hm).1, (fmod_bd b0 m hm).2, ⟨a, _, h2, by omega, fdiv_bd b0 m (by omega) hm⟩, h3⟩
  · obtain ⟨b', d, s2, s3, s4, s5, s6, ex, d1, d2, hb'⟩ := draw_small F (p := p) (cs := cs) (a := a) hm hm2 (by omega) hb0 (by omega) hl
    refine wpAny_mono (call_own (fuel := 1000) (r := .sc (.int d)) (a1 := ((a + 1 : Nat) : Int)) (b1 := b') T hc hb ho hd rfl rfl pr hV hn rfl rfl sc1 hpn ex ⟨_, rfl⟩ rfl R hx) (fun v s' h => ?_) fun _ _ e => e
    obtain ⟨h1, h2, h3⟩ := h
    exact ⟨d, h1, d1, d2, ⟨a + 1, b', h2, by omega, hb'⟩, h3⟩
end
end Mine

end
section
open PySem PySem.W PyProof.Rows PySem.Calls
open PySem.SeqAt PySem.SeqRoads2
set_option Elab.async false
set_option autoImplicit false
set_option linter.unusedVariables false
namespace Mine
noncomputable def fnWith (K : Frag) (d : FD) (chk : Nms → Sls → List Stmt → Bool) : Bool := fnAt K d fun fd b => chk fd.scope.names d.sl b && fdChk0 K d fd
noncomputable def gName (nm : Nms) (g : Str) (i : Nat) : Bool := nameOk g && seq g (fnm i) && kdIs nm g .globalImplicit
noncomputable def pickChk (nm : Nms) (sl : Sls) (b : List Stmt) : Bool := any1 (oneL b) fun s => any2 (yRet s) fun r _ => any3 (xSub r) fun sv u _ => any3 (xCall u) fun c as _ => any2 (xName c) fun g _ => any2 (twoL as) fun pe le =>
  isE nm sl (.var 1) sv && (gName nm g 53 && (isEs nm sl (.cons (.var 0) (.cons (.bi .len (.cons (.var 1) .nil)) .nil)) [pe, le] && noStar [pe, le]))
inductive IPick (nm : Nms) (sl : Sls) : List Stmt → Prop
  | mk (sv : PySem.Expr) (g : Str) (gp : Pos) (pe le : PySem.Expr) (cp p2 p3 : Pos) (h1 : isE nm sl (.var 1) sv = true) (h2 : gName nm g 53 = true) (h3 : isEs nm sl (.cons (.var 0) (.cons (.bi .len (.cons (.var 1) .nil)) .nil)) [pe, le] = true) (h4 : noStar [pe, le] = true) :
      IPick nm sl [.Return (some (.Subscript sv (.Call (.Name g gp) [pe, le] [] cp) p2)) p3]
theorem pickChk_inv {nm : Nms} {sl : Sls} {b : List Stmt} (h : pickChk nm sl b = true) : IPick nm sl b := by
  replace h := any1_e h
  induction h with | mk s g =>
  replace g := any2_e g
  induction g with | mk r p3 g =>
  replace g := any3_e g
  induction g with | mk sv u p2 g =>
  replace g := any3_e g
  induction g with | mk c as cp g =>
  replace g := any2_e g
  induction g with | mk n gp g =>
  replace g := any2_e g
  induction g with | mk pe le g =>
  obtain ⟨h1, h2, h3, h4⟩ := and_t4 g
  exact ⟨sv, n, gp, pe, le, cp, p2, p3, h1, h2, h3, h4⟩
noncomputable def penChk (nm : Nms) (sl : Sls) (b : List Stmt) : Bool := any1 (oneL b) fun s => any2 (yRet s) fun r _ => any2 (xList r) fun v _ => isEs nm sl (.cons c0_law_pen (.cons (.k (.int 0)) (.cons (.k (.int 0)) .nil))) v && noStar v
inductive IPenB (nm : Nms) (sl : Sls) : List Stmt → Prop
  | mk (es : List PySem.Expr) (p2 p3 : Pos) (h1 : isEs nm sl (.cons c0_law_pen (.cons (.k (.int 0)) (.cons (.k (.int 0)) .nil))) es = true) (h2 : noStar es = true) : IPenB nm sl [.Return (some (.List es p2)) p3]
theorem penChk_inv {nm : Nms} {sl : Sls} {b : List Stmt} (h : penChk nm sl b = true) : IPenB nm sl b := by
  replace h := any1_e h
  induction h with | mk s g =>
  replace g := any2_e g
  induction g with | mk r p3 g =>
  replace g := any2_e g
  induction g with | mk es p2 g => exact ⟨es, p2, p3, (and_t g).1, (and_t g).2⟩
theorem gName_inv {nm : Nms} {g : Str} {i : Nat} (h : gName nm g i = true) : nameOk g = true ∧ g = fnm i ∧ nm.lookup g = some .globalImplicit := by
  replace h := and_t h
  obtain ⟨h, h3⟩ := h
  replace h := and_t h
  obtain ⟨h1, h2⟩ := h
  exact ⟨h1, seq_eq h2, kdIs_eq h3⟩
section
variable {prog : Program} {w : World} {hB : Heap} {K : Frag} {F : Fns} {G : Gls} {n fuel : Nat}
inductive GWi (K : Frag) (d : FD) (chk : Nms → Sls → List Stmt → Bool) : Prop
  | mk (a : Addr) (o : Obj) (fd : FuncData) (b : List Stmt) (h1 : nsIn K mainGlobals (fnm d.id) = some (some (.ref a))) (h2 : K.lookup a = some o) (h3 : o.data = .func fd) (h4 : fd.body = .stmts b) (g1 : chk fd.scope.names d.sl b = true) (g2 : fdChk0 K d fd = true) : GWi K d chk
theorem fnWith_of {d : FD} {chk : Nms → Sls → List Stmt → Bool} (h : fnWith K d chk = true) : GWi K d chk := by
  obtain ⟨a, o, fd, b, h1, h2, h3, h4, g⟩ := fnAt_e h
  exact ⟨a, o, fd, b, h1, h2, h3, h4, (and_t g).1, (and_t g).2⟩

theorem Fr.tr {W : List Addr} {a b c : Shared} (x : Fr W a b) (y : Fr W b c) : Fr W a c := x.trans (Grow.refl _ _) y
theorem Fr.kp {W : List Addr} {a b : Shared} (x : Keeps a b) : Fr W a b := Fr.keeps x
/-- what avoids p stays -/
theorem Rep.fr {V : List Addr} {s s' : Shared} {P : PV} {v : Value} {p : Addr} (x : Rep prog w V s.heap P v) (hp : p ∈ V) (f : Fr [p] s s') : Rep prog w V s'.heap P v :=
  x.move (U := [p]) (fun a ha hm => ha (by rw [List.mem_singleton.mp hm]; exact hp)) (fun a ha => ha) fun b o hb e => f.at' b o hb e
theorem RepPen.ext {V : List Addr} {h h' : Heap} {p : Addr} {cs : List Int} {a b : Int} {v : Value} (x : RepPen V h p cs a b v) (e : Ext h h') : RepPen V h' p cs a b v := by
  obtain ⟨c, its, t, u, e0, hp, ⟨o, ho, r⟩, hc, hne, ⟨n', ho'⟩, hm, hk⟩ := x
  exact ⟨c, its, t, u, e0, hp, ⟨o, e _ _ ho, r⟩, hc, hne, ⟨n', e _ _ ho'⟩, hm, hk⟩
theorem PenS.ext {V : List Addr} {h h' : Heap} {p : Addr} {cs : List Int} {k : Nat} (x : PenS V h p cs k) (e : Ext h h') : PenS V h' p cs k := by
  obtain ⟨a, b, pa, r⟩ := x
  exact ⟨a, b, pa.ext e, r⟩
theorem pen_ne {h : Heap} {p l : Addr} {cs : List Int} {k : Nat} {V V' : List Addr} {ls : List Sc} (x : PenS V' h p cs k) (y : Rep prog w V h (.lst ls) (.ref l)) : l ≠ p := by
  obtain ⟨a, b, ⟨c, its, t, u, _, _, ⟨o, ho, _, n, hd⟩, _⟩, _⟩ := x
  obtain ⟨l', its', e, _, ⟨n', ho'⟩, hm, _⟩ := y
  cases e
  rintro rfl
  rw [ho] at ho'; cases ho'
  cases hd
  have := congrArg (·[0]?) hm
  simp only [List.getElem?_map] at this
  cases q : ls[0]? with
  | none => rw [q] at this; simp at this
  | some z => rw [q] at this; simp [Sc.of] at this
theorem lst_avoid {h : Heap} {p : Addr} {V : List Addr} {ls : List Sc} {v : Value} (y : Rep prog w V h (.lst ls) v) (hne : ∀ l, v = .ref l → l ≠ p) : Rep prog w (p :: V) h (.lst ls) v := by
  obtain ⟨l, its, rfl, hl, r, r', r''⟩ := y
  exact ⟨l, its, rfl, fun m => by
    replace m := List.mem_cons.mp m
    rcases m with e | m
    · exact hne l rfl e
    · exact hl m, r, r', r''⟩
theorem pen_any {V : List Addr} {h : Heap} {p : Addr} {cs : List Int} {a b : Int} {q : PV} {us : List Value} (x : Paired (Rep prog w V h) [.pen p cs a b, q] us) : ∃ u, us = [.ref p, u] ∧ Rep prog w V h q u := by
  obtain ⟨u0, _, rfl, r0, x⟩ := paired_cons x
  obtain ⟨u1, rfl, r1⟩ := paired_one x
  obtain ⟨_, _, _, _, rfl, _⟩ := r0
  exact ⟨u1, rfl, r1⟩
theorem pen_int {V : List Addr} {h : Heap} {p : Addr} {cs : List Int} {a b i : Int} {us : List Value} (x : Paired (Rep prog w V h) [.pen p cs a b, .sc (.int i)] us) : ∃ t, us = [.ref p, .int i t] := by
  obtain ⟨u, rfl, r⟩ := pen_any x
  obtain ⟨t, rfl⟩ := of_int r
  exact ⟨t, rfl⟩
/-- the pick, behind the draw -/
theorem pick_end {A : Around} {s : Shared} {ov : Value} {p : Addr} {ls : List (List Nat)} {d : Int} {sv le : PySem.Expr} {dv : Value} {Q E : Value → Shared → Prop} (hr : Rep prog w [p] s.heap (.lst (mS ls)) ov) (hdv : Sc.of dv = some (.int d)) (d0 : 0 ≤ d) (d1 : d < ls.length) (hl1 : ls.length ≤ 100) (he : noSlice le = true)
    (hQ : ∀ v s', Keeps s s' → ∀ x, x ∈ ls → Sc.of v = some (.str x) → Q v s') : wpAny (model prog w) A (subscriptTail sv le ov dv) Q E s := by
  have hdn : d.toNat < ls.length := by omega
  have hlm : (mS ls).length = ls.length := by simp [mS]
  have hix : index (.lst (mS ls)) (.sc (.int d)) = some (.sc (.str (ls[d.toNat]'hdn))) := by
    refine idx_lst (k := d.toNat) ?_ (by omega) (by omega)
    simp [mS, List.getElem?_map, List.getElem?_eq_getElem hdn]
  exact wpAny_mono (index_ok (W' := []) hix he hr hdv E) (fun v s' h => hQ v s' h.1 _ (List.getElem_mem _) h.2) fun _ _ e => e
theorem pick_ok (T : Sys prog w hB K F G n) (hfn : fnWith K d_law_pick pickChk = true) (hdr : fnChk K d_law_draw = true) {A : Around} {s : Shared} {f p : Addr} {v1 : Value} {ls : List (List Nat)} {cs : List Int} {k : Nat} {V : List Addr} {E : Value → Shared → Prop}
    (hf : nsIn K mainGlobals (fnm 54) = some (some (.ref f))) (R : Room (n + 2) A) (hx : Ext hB s.heap) (hp : PenS V s.heap p cs k) (hV : Live V s.heap) (hn : ∀ a ∈ V, hB.get? a = none) (hk : k ≤ 900) (hr : Rep prog w V s.heap (.lst (mS ls)) v1) (hl0 : 0 < ls.length) (hl1 : ls.length ≤ 100) (hl : cs.length ≤ 1000) (hpn : hB.get? p = none) :
    wpAny (model prog w) A (call (.ref f) [.ref p, v1]) (fun v s' => ∃ x, x ∈ ls ∧ Sc.of v = some (.str x) ∧ PenS V s'.heap p cs (k + 1) ∧ Fr [p] s s') E s := by
  replace hfn := fnWith_of hfn
  obtain ⟨f', o, fd, b, hf', ho, hd, hb, hsh, hc0⟩ := hfn
  have hf' : nsIn K mainGlobals (fnm 54) = some (some (.ref f')) := hf'
  rw [hf] at hf'; cases hf'
  obtain ⟨g', go, gd, gb, hg', hgo, hgd, hgb, _⟩ := fnChk_of hdr
  have hg' : nsIn K mainGlobals (fnm 53) = some (some (.ref g')) := hg'
  obtain ⟨a, b0, pa, ha, hb0⟩ := hp
  have hp : PenS V s.heap p cs k := ⟨a, b0, pa, ha, hb0⟩
  have pr : Paired (Rep prog w V s.heap) [.pen p cs (a : Int) b0, .lst (mS ls)] [.ref p, v1] := .cons pa (.cons hr .nil)
  refine enter T hc0 hb ho hd rfl rfl pr R hx hV hn fun env s₁ W E' X kp hfresh R' => ?_
  have X : Sx prog w hB fd.scope.names d_law_pick.sl [.val (.pen p cs (a : Int) b0), .val (.lst (mS ls))] V W env (fun _ => 0) s₁.heap := X
  replace hsh := pickChk_inv hsh
  obtain ⟨sv, g, gp, pe, le, pos, p2, p3, h1, h2, h3, h4⟩ := hsh
  replace h2 := gName_inv h2
  obtain ⟨g1, rfl, g3⟩ := h2
  have hlm : (mS ls).length = ls.length := by simp [mS]
  refine wpAny_execs_cons (wpAny_Return_some (Subscript_ ((ev_ok T (.var 1)).step (tmp := true) (p := .lst (mS ls)) h1 rfl X.cx R'.less fun ov s₂ k₂ r₂ C₂ => ?_)))
  refine call_name (glob_ok T.B C₂.base C₂.fn C₂.gl (C₂.kind _ _ g3 (by decide)) g1 hg' ?_)
  refine callW_ok (f := .none) (first := []) h4 ((evs_ok T (.cons (.var 0) (.cons (.bi .len (.cons (.var 1) .nil)) .nil))).step (tmp := false) (ps := [.pen p cs (a : Int) b0, .sc (.int (ls.length : Int))]) h3 h4 (by rw [← hlm]; rfl) C₂ R'.less fun us s₃ k₃ r₃ _ => ⟨⟨C₂.base.trans (Keeps.ext k₃) _ _ (T.B.kin _ _ hgo), hgd⟩, ?_⟩)
  replace r₃ := pen_int r₃
  obtain ⟨tk, rfl⟩ := r₃
  have kk := Keeps.trans kp (Keeps.trans k₂ k₃)
  refine wpAny_mono (draw_ok T hdr hg' R' (hx.trans (Keeps.ext kk)) (hp.ext (Keeps.ext kk)) (hV.ext (Keeps.ext kk)) hn hk (by omega) (by omega) hl hpn) (fun dv s₄ h₄ => ?_) fun _ _ e => e
  obtain ⟨d, hdv, d0, d1, hp4, hfr⟩ := h₄
  -- the list, behind the draw
  have hr3 : Rep prog w [] s₃.heap (.lst (mS ls)) ov := (r₂.less (fun _ h => by cases h)).ext (Keeps.ext k₃)
  have hne : ∀ l, ov = .ref l → l ≠ p := fun l e => by subst e; exact pen_ne (hp.ext (Keeps.ext kk)) hr3
  have hr4 : Rep prog w [p] s₄.heap (.lst (mS ls)) ov := Rep.fr (lst_avoid hr3 hne) (by simp) hfr
  exact pick_end hr4 hdv d0 d1 hl1 rfl fun v s₅ k₅ x hx hv => ⟨x, hx, hv, hp4.ext (Keeps.ext k₅), (Fr.kp kk).tr (hfr.tr (Fr.kp k₅))⟩
theorem sl_40 (ns : List Int) : slice (.lst (ns.map Sc.int)) none (some 40) = some (.lst ((ns.take 40).map Sc.int)) := by
  rw [sl_lst _ (by decide)]
  have := cut_none_nat (ns.map Sc.int) 40
  show some (PV.lst (cutL (ns.map Sc.int) none (some 40))) = _
  rw [show ((40 : Nat) : Int) = 40 from rfl] at this
  rw [this, List.map_take]
theorem comp_pen (F : Fns) (ns : List Int) (hl : ns.length ≤ 1000) (s1 : Slot) : ev F Gl false [.val (.lst (ns.map Sc.int)), s1] c0_law_pen = some (.lst ((ns.take 40).map Sc.int)) := by
  refine cmp_of (p := .lst ((ns.take 40).map Sc.int)) (vcE [(0, fp (sl_40 ns))] (by kernel_rfl)) (items_lst _) (by simp; omega) ?_
  exact cmpM fun c hc => rfl
theorem pen_ok (T : Sys prog w hB K F Gl n) (hfn : fnWith K d_law_pen penChk = true) {A : Around} {s : Shared} {f : Addr} {v1 : Value} {ns : List Int} {V : List Addr} {E : Value → Shared → Prop}
    (hf : nsIn K mainGlobals (fnm 52) = some (some (.ref f))) (R : Room (n + 1) A) (hx : Ext hB s.heap) (hV : Live V s.heap) (hn : ∀ a ∈ V, hB.get? a = none) (hr : Rep prog w V s.heap (.lst (ns.map Sc.int)) v1) (hl : ns.length ≤ 1000) :
    wpAny (model prog w) A (call (.ref f) [v1]) (fun v s' => Keeps s s' ∧ ∃ p, v = .ref p ∧ s.heap.get? p = none ∧ PenS V s'.heap p (ns.take 40) 0) E s := by
  replace hfn := fnWith_of hfn
  obtain ⟨f', o, fd, b, hf', ho, hd, hb, hsh, hc0⟩ := hfn
  have hf' : nsIn K mainGlobals (fnm 52) = some (some (.ref f')) := hf'
  rw [hf] at hf'; cases hf'
  have pr : Paired (Rep prog w V s.heap) [.lst (ns.map Sc.int)] [v1] := .cons hr .nil
  refine enter T hc0 hb ho hd rfl rfl pr R hx hV hn fun env s₁ W E' X kp hfresh R' => ?_
  have X : Sx prog w hB fd.scope.names d_law_pen.sl [.val (.lst (ns.map Sc.int)), .un] V W env (fun _ => 0) s₁.heap := X
  replace hsh := penChk_inv hsh
  obtain ⟨es, p2, p3, h1, h2⟩ := hsh
  refine wpAny_execs_cons (wpAny_Return_some (List_ (wpAny_mono (evs_ok T (.cons c0_law_pen (.cons (.k (.int 0)) (.cons (.k (.int 0)) .nil))) _ _ _ _ _ _ _ _ _ false [.lst ((ns.take 40).map Sc.int), .sc (.int 0), .sc (.int 0)] _ E' h1 h2 (by rw [evs_c, comp_pen F ns hl]; rfl) X.cx R') (fun us s₂ h₂ => ?_) fun _ _ e => e)))
  obtain ⟨u0, _, rfl, r0, hp1⟩ := paired_cons h₂.2
  replace hp1 := paired_cons hp1
  obtain ⟨u1, _, rfl, r1, hp2⟩ := hp1
  replace hp2 := paired_cons hp2
  obtain ⟨u2, _, rfl, r2, hp3⟩ := hp2
  replace hp3 := paired_nil hp3
  subst hp3
  replace r1 := of_int r1
  obtain ⟨t1, rfl⟩ := r1
  replace r2 := of_int r2
  obtain ⟨t2, rfl⟩ := r2
  obtain ⟨c, its, rfl, hcV, ⟨nn, hc⟩, hm, hle⟩ := r0
  have hpV : s₂.heap.objs.size ∉ V := (hV.ext (Keeps.ext (Keeps.trans kp h₂.1))).fresh' (fresh_none _)
  have hcV' : c ∉ V := fun m => hcV (List.mem_append_left _ m)
  have hcne : c ≠ s₂.heap.objs.size := fun e => by rw [e, fresh_none] at hc; cases hc
  refine wpAny_newList ⟨Keeps.trans kp (Keeps.trans h₂.1 (Keeps.mk' (t := s₂.toks) (ext_push _ _))), s₂.heap.objs.size, rfl, ?_, 0, 0, ⟨c, its, t1, t2, rfl, hpV, ⟨_, Heap.get?_push_size _ rfl, rfl, _, rfl⟩, hcV', hcne, ⟨nn, ext_push _ _ _ _ hc⟩, hm, by simpa using hle⟩, Nat.le_refl _, Int.le_refl _⟩ (by rw [sizeLine_eq]; simp)
  exact none_of_ext (Keeps.ext (Keeps.trans kp h₂.1)) (fresh_none _)
end
end Mine

end
section
open PySem PySem.W PyProof.Rows PySem.Calls
open PySem.SeqAt PySem.SeqRoads2
set_option Elab.async false
set_option autoImplicit false
set_option linter.unusedVariables false
namespace Mine
section
variable {prog : Program} {w : World} {hB : Heap} {K : Frag} {F : Fns} {G : Gls} {n fuel : Nat}

theorem Loads.mvX {nm : Nms} {sl : Sls} {ρ : List Slot} {Wo W : List Addr} {env : Env} {oa : Nat → Addr} {h h' : Heap} (X : Sx prog w hB nm sl ρ Wo W env oa h) {x : Str} {v : Value} (l : Loads env h x v)
    (e : ∀ b o, b ∈ W → h.get? b = some o → h'.get? b = some o) : Loads env h' x v :=
  l.mv fun b o hb => e b o (by
    rcases hb with rfl | ⟨y, hb⟩
    · exact X.loc.1
    · exact (X.cell y b hb).1)
theorem one_mem {P : Addr → Prop} {q : Addr} (h : P q) : ∀ b ∈ [q], P b := fun b m => by rw [List.mem_singleton.mp m]; exact h
/-- what changes a thing of the others alone, keeps the frame -/
theorem Sx.frO {nm : Nms} {sl : Sls} {ρ : List Slot} {Wo W : List Addr} {env : Env} {oa : Nat → Addr} {h h' : Heap} {q : Addr} (X : Sx prog w hB nm sl ρ Wo W env oa h) (ho : ∀ (j : Nat) (P : PV), ρ[j]? ≠ some (Slot.own P)) (hq : q ∈ Wo) (hW : q ∉ W)
    (e : ∀ b o, b ≠ q → h.get? b = some o → h'.get? b = some o) (hp : ∃ o, h'.get? q = some o) : Sx prog w hB nm sl ρ Wo W env oa h' :=
  X.frame (U := [q]) (fun b o hb => e b o fun x => hb (List.mem_singleton.mpr x)) (one_mem ⟨hq, hW⟩) (fun _ m => m) (one_mem fun _ => hp)
/-- names may be forgotten -/
theorem Sx.forget {nm : Nms} {sl : Sls} {ρ ρ' : List Slot} {Wo W : List Addr} {env : Env} {oa : Nat → Addr} {h : Heap} (X : Sx prog w hB nm sl ρ Wo W env oa h) (hl : ρ'.length = ρ.length)
    (hr : ∀ (j : Nat) (σ : Slot), ρ'[j]? = some σ → σ = .un ∨ ρ[j]? = some σ) : Sx prog w hB nm sl ρ' Wo W env oa h where
  st := X.st
  base := X.base
  live := X.live
  new := X.new
  len := X.len.trans hl.symm
  loc := X.loc
  cell := X.cell
  val := fun i x P hi hv => by
    rcases hr i _ hv with e | e
    · cases e
    · exact X.val i x P hi e
  own := fun i x P hi hv => by
    rcases hr i _ hv with e | e
    · cases e
    · exact X.own i x P hi e
  oinj := fun i j P P' hi hj q => by
    rcases hr i _ hi with e | e
    · cases e
    rcases hr j _ hj with e' | e'
    · cases e'
    exact X.oinj i j P P' e e' q
  osep := fun i P hi => by
    rcases hr i _ hi with e | e
    · cases e
    · exact X.osep i P e
/-- a thing of the others is let go -/
theorem Sx.dropO {nm : Nms} {sl : Sls} {ρ : List Slot} {Wo W : List Addr} {env : Env} {oa : Nat → Addr} {h h' : Heap} {q : Addr} (X : Sx prog w hB nm sl ρ (q :: Wo) W env oa h) (ho : ∀ (j : Nat) (P : PV), ρ[j]? ≠ some (Slot.own P)) (hW : q ∉ Wo ++ W)
    (e : ∀ b o, b ≠ q → h.get? b = some o → h'.get? b = some o) : Sx prog w hB nm sl ρ Wo W env oa h' :=
  X.frame (U := [q]) (fun b o hb => e b o fun x => hb (List.mem_singleton.mpr x)) (one_mem ⟨List.mem_cons_self, fun m => hW (List.mem_append_right _ m)⟩) (fun _ => List.mem_cons_of_mem _) (one_mem fun m => (hW (List.mem_append_left _ m)).elim)
/-- a thing is set apart -/
theorem Sx.addO {nm : Nms} {sl : Sls} {ρ : List Slot} {Wo W : List Addr} {env : Env} {oa : Nat → Addr} {h : Heap} {q : Addr} (X : Sx prog w hB nm sl ρ Wo W env oa h) (ho : ∀ (j : Nat) (σ : Slot), ρ[j]? = some σ → σ = .un) (hq : ∃ o, h.get? q = some o) (hn : hB.get? q = none) :
    Sx prog w hB nm sl ρ (q :: Wo) W env oa h where
  st := X.st
  base := X.base
  live := fun a ha => by
    replace ha := List.mem_cons.mp ha
    rcases ha with rfl | ha
    · exact hq
    · exact X.live a ha
  new := fun a ha => by
    replace ha := List.mem_cons.mp ha
    rcases ha with rfl | ha
    · exact hn
    · exact X.new a ha
  len := X.len
  loc := X.loc
  cell := X.cell
  val := fun i x P _ hv => by cases ho i _ hv
  own := fun i x P _ hv => by cases ho i _ hv
  oinj := fun i j P P' hi _ _ => by cases ho i _ hi
  osep := fun i P hi => by cases ho i _ hi
theorem RepPen.mv {V : List Addr} {h h' : Heap} {p : Addr} {cs : List Int} {a b : Int} {v : Value} (x : RepPen V h p cs a b v) (e : ∀ c o, c ∉ V → h.get? c = some o → h'.get? c = some o) : RepPen V h' p cs a b v := by
  obtain ⟨c, its, t, u, e0, hp, ⟨o, ho, r⟩, hc, hne, ⟨n', ho'⟩, hm, hk⟩ := x
  exact ⟨c, its, t, u, e0, hp, ⟨o, e _ _ hp ho, r⟩, hc, hne, ⟨n', e _ _ hc ho'⟩, hm, hk⟩
theorem PenS.mv {V : List Addr} {h h' : Heap} {p : Addr} {cs : List Int} {k : Nat} (x : PenS V h p cs k) (e : ∀ c o, c ∉ V → h.get? c = some o → h'.get? c = some o) : PenS V h' p cs k := by
  obtain ⟨a, b, pa, r⟩ := x
  exact ⟨a, b, pa.mv e, r⟩
theorem PenS.less {V V' : List Addr} {h : Heap} {p : Addr} {cs : List Int} {k : Nat} (x : PenS V h p cs k) (e : ∀ a, a ∈ V' → a ∈ V) : PenS V' h p cs k := by
  obtain ⟨a, b, ⟨c, its, t, u, e0, hp, r, hc, q, q', q'', k'⟩, z⟩ := x
  exact ⟨a, b, ⟨c, its, t, u, e0, fun m => hp (e _ m), r, fun m => hc (e _ m), q, q', q'', k'⟩, z⟩
theorem PenS.notin {V : List Addr} {h : Heap} {p : Addr} {cs : List Int} {k : Nat} (x : PenS V h p cs k) : p ∉ V := by
  obtain ⟨a, b, ⟨c, its, t, u, e0, hp, r⟩, z⟩ := x
  exact hp
theorem PenS.alive {V : List Addr} {h : Heap} {p : Addr} {cs : List Int} {k : Nat} (x : PenS V h p cs k) : ∃ o, h.get? p = some o := by
  obtain ⟨a, b, ⟨c, its, t, u, e0, hp, ⟨o, ho, _⟩, _⟩, z⟩ := x
  exact ⟨o, ho⟩

noncomputable abbrev penN : Str := Str.ofString "pen"
/-- the law's names: the words alone -/
noncomputable abbrev F2 (σ : Slot) : List Slot := [.un, .un, σ, .un, .un, .un, .un, .un, .un, .un, .un, .un, .un, .un]
/-- the law's frame, its pen set apart -/
structure Fs (prog : Program) (w : World) (hB : Heap) (nm : Nms) (U W : List Addr) (env : Env) (p : Addr) (cs : List Int) (k : Nat) (σ : Slot) (h : Heap) : Prop where
  X : Sx prog w hB nm sl_law (F2 σ) (U ++ [p]) W env (fun _ => 0) h
  ow : ∀ P, σ ≠ .own P
  l : Loads env h penN (.ref p)
  pen : PenS (U ++ W) h p cs k
  n : cs.length ≤ 1000
variable {nm : Nms} {U W : List Addr} {env : Env} {p : Addr} {cs : List Int} {k : Nat} {σ : Slot}

theorem F2_own {σ : Slot} (ho : ∀ P, σ ≠ .own P) : ∀ (j : Nat) (P : PV), (F2 σ)[j]? ≠ some (Slot.own P) := fun j P h => by
  match j, h with
  | 0, h => cases h
  | 1, h => cases h
  | 2, h => exact ho P (Option.some.inj h)
  | 3, h => cases h
  | 4, h => cases h
  | 5, h => cases h
  | 6, h => cases h
  | 7, h => cases h
  | 8, h => cases h
  | 9, h => cases h
  | 10, h => cases h
  | 11, h => cases h
  | 12, h => cases h
  | 13, h => cases h
  | j + 14, h => simp at h
theorem Fs.pW {h : Heap} (X : Fs prog w hB nm U W env p cs k σ h) : p ∉ W := fun m => X.pen.notin (List.mem_append_right _ m)
theorem Fs.pU {h : Heap} (X : Fs prog w hB nm U W env p cs k σ h) : p ∉ U := fun m => X.pen.notin (List.mem_append_left _ m)
theorem Fs.pn {h : Heap} (X : Fs prog w hB nm U W env p cs k σ h) : hB.get? p = none := X.X.new p (List.mem_append_left _ (List.mem_append_right _ List.mem_cons_self))
theorem Fs.go {h h' : Heap} (X : Fs prog w hB nm U W env p cs k σ h) (e : Ext h h') : Fs prog w hB nm U W env p cs k σ h' := ⟨X.X.ext e, X.ow, X.l.ext e, X.pen.ext e, X.n⟩
/-- the pen changes -/
theorem Fs.fr {s s' : Shared} {k' : Nat} (X : Fs prog w hB nm U W env p cs k σ s.heap) (f : Fr [p] s s') (hp : PenS (U ++ W) s'.heap p cs k') : Fs prog w hB nm U W env p cs k' σ s'.heap := by
  have e : ∀ b o, b ≠ p → s.heap.get? b = some o → s'.heap.get? b = some o := fun b o hb => f.at' b o fun m => hb (List.mem_singleton.mp m)
  exact ⟨X.X.frO (F2_own X.ow) (List.mem_append_right _ List.mem_cons_self) X.pW e hp.alive, X.ow, X.l.mvX X.X fun b o hb => e b o fun x => X.pW (x ▸ hb), hp, X.n⟩
theorem Fs.cx {h : Heap} {a b : Int} (X : Fs prog w hB nm U W env p cs k σ h) (hp : PenAt (U ++ W) h p cs a b) : Cx prog w hB nm sl_law ((F2 σ).set 1 (.val (.pen p cs a b))) U W env h := by
  have C := X.X.cx
  have sub : ∀ a, a ∈ U ++ W → a ∈ (U ++ [p]) ++ W := fun a m => by
    replace m := List.mem_append.mp m
    rcases m with m | m
    · exact List.mem_append_left _ (List.mem_append_left _ m)
    · exact List.mem_append_right _ m
  refine { base := C.base, live := fun a m => C.live a (sub a m), new := fun a m => C.new a (sub a m), fn := C.fn, gl := C.gl, bl := C.bl, kind := C.kind, kindF := C.kindF, cells := C.cells, len := by simpa using C.len, vars := fun i x sv hi hv => ?_ }
  replace hv := set_get hv
  rcases hv with ⟨rfl, rfl⟩ | ⟨hne, hv⟩
  · have : x = penN := (Option.some.inj (Option.some.inj hi)).symm
    subst this
    exact ⟨.ref p, X.l, hp⟩
  · have := C.vars i x sv hi hv
    induction sv with
    | un => trivial
    | val P => obtain ⟨v, l, r⟩ := this; exact ⟨v, l, r.less sub⟩
    | own P => exact (F2_own X.ow i P hv).elim

theorem Fr.up {p : Addr} {W : List Addr} {s s' : Shared} (f : Fr [p] s s') : Fr (p :: W) s s' := by
  obtain ⟨h, t, rfl, e⟩ := f
  exact ⟨h, t, rfl, fun b o hb => e b o fun m => hb (by rw [List.mem_singleton.mp m]; exact List.mem_cons_self)⟩
theorem Fr.upW {p : Addr} {W : List Addr} {s s' : Shared} (f : Fr W s s') : Fr (p :: W) s s' := by
  obtain ⟨h, t, rfl, e⟩ := f
  exact ⟨h, t, rfl, fun b o hb => e b o fun m => hb (List.mem_cons_of_mem _ m)⟩

noncomputable def call2 (nm : Nms) (i : Nat) (es : Es) (x : PySem.Expr) : Bool := any3 (xCall x) fun c as _ => any2 (xName c) fun g _ => any2 (twoL as) fun a b => gName nm g i && (isEs nm sl_law es [a, b] && noStar [a, b])
theorem call2_inv {nm : Nms} {i : Nat} {es : Es} {x : PySem.Expr} (h : call2 nm i es x = true) : ∃ gp a b pos, x = .Call (.Name (fnm i) gp) [a, b] [] pos ∧ nameOk (fnm i) = true ∧ nm.lookup (fnm i) = some .globalImplicit ∧ isEs nm sl_law es [a, b] = true ∧ noStar [a, b] = true := by
  replace h := any3_e h
  induction h with | mk gx as cp g =>
  replace g := any2_e g
  induction g with | mk n gp g =>
  replace g := any2_e g
  induction g with | mk a b g =>
  obtain ⟨h1, h2⟩ := and_t g
  obtain ⟨g1, rfl, g3⟩ := gName_inv h1
  exact ⟨_, _, _, _, rfl, g1, g3, and_t h2⟩
noncomputable def drawX (nm : Nms) (m : Int) : PySem.Expr → Bool := call2 nm 53 (.cons (.var 1) (.cons (.k (.int m)) .nil))
noncomputable def esOf : List (List Nat) → Es
  | [] => .nil
  | x :: r => .cons (.k (.str x)) (esOf r)
noncomputable def pickX (nm : Nms) (ls : List (List Nat)) : PySem.Expr → Bool := call2 nm 54 (.cons (.var 1) (.cons (.lst (esOf ls)) .nil))
theorem evs_esOf (F : Fns) (G : Gls) (t : Bool) (ρ : List Slot) : ∀ ls : List (List Nat), evs F G t ρ (esOf ls) = some (ls.map fun x => .sc (.str x))
  | [] => rfl
  | x :: r => by rw [esOf, evs_c, evs_esOf F G t ρ r]; rfl
theorem scs_strs : ∀ ls : List (List Nat), scs (ls.map fun x => PV.sc (.str x)) = some (mS ls)
  | [] => rfl
  | x :: r => by show (scs (r.map _)).map (Sc.str x :: ·) = _; rw [scs_strs r]; rfl
theorem ev_strs (F : Fns) (G : Gls) (t : Bool) (ρ : List Slot) {ls : List (List Nat)} (hl : ls.length ≤ 100) : ev F G t ρ (.lst (esOf ls)) = some (.lst (mS ls)) := by
  have hm : mkL (mS ls) = some (.lst (mS ls)) := mkL_ok (by simp [mS]; omega)
  rw [ev_lst', evs_esOf, Option.bind_some, scs_strs, Option.bind_some, hm]
  match ls with
  | [] => rfl
  | [_] => rfl
  | _ :: _ :: _ => rfl

theorem fs_draw (T : Sys prog w hB K F G n) (hdr : fnChk K d_law_draw = true) {x : PySem.Expr} {m : Int} {A : Around} {s : Shared} {E : Value → Shared → Prop} (hx : drawX nm m x = true) (X : Fs prog w hB nm U W env p cs k σ s.heap) (R : Room (n + 1) A) (hk : k ≤ 900) (hm : 0 < m) (hm2 : m ≤ 100) :
    wpAny (model prog w) A (eval x env) (fun v s' => ∃ d, Sc.of v = some (.int d) ∧ 0 ≤ d ∧ d < m ∧ Fs prog w hB nm U W env p cs (k + 1) σ s'.heap ∧ Fr (p :: W) s s') E s := by
  obtain ⟨f, o, fd, b, hf, ho, hd, hb, hc⟩ := fnChk_of hdr
  have hf : nsIn K mainGlobals (fnm 53) = some (some (.ref f)) := hf
  obtain ⟨a, b0, pa, ha, hb0⟩ := X.pen
  have C := X.cx pa
  obtain ⟨gp, pe, me, pos, rfl, g1, g3, h3, h4⟩ := call2_inv hx
  clear hx
  refine call_name (glob_ok T.B C.base C.fn C.gl (C.kind _ _ g3 (by decide)) g1 hf ?_)
  refine callW_ok (f := .none) (first := []) h4 ((evs_ok T (.cons (.var 1) (.cons (.k (.int m)) .nil))).step (tmp := false) (ps := [.pen p cs (a : Int) b0, .sc (.int m)]) h3 h4 rfl C R.less fun us s₃ k₃ r₃ C₃ => ⟨⟨C.base.trans (Keeps.ext k₃) _ _ (T.B.kin _ _ ho), hd⟩, ?_⟩)
  replace r₃ := pen_int r₃
  obtain ⟨tk, rfl⟩ := r₃
  have X₃ := X.go (Keeps.ext k₃)
  refine wpAny_mono (draw_ok T hdr hf R C₃.base X₃.pen C₃.live C₃.new hk hm hm2 X.n X.pn) (fun dv s₄ h₄ => ?_) fun _ _ e => e
  obtain ⟨d, hdv, d0, d1, hp4, hfr⟩ := h₄
  exact ⟨d, hdv, d0, d1, X₃.fr hfr hp4, (Fr.kp k₃).tr hfr.up⟩
theorem fs_pick (T : Sys prog w hB K F G n) (hdr : fnChk K d_law_draw = true) (hpi : fnWith K d_law_pick pickChk = true) {x : PySem.Expr} {ls : List (List Nat)} {A : Around} {s : Shared} {E : Value → Shared → Prop} (hx : pickX nm ls x = true) (X : Fs prog w hB nm U W env p cs k σ s.heap) (R : Room (n + 2) A) (hk : k ≤ 900) (hl0 : 0 < ls.length) (hl1 : ls.length ≤ 100) :
    wpAny (model prog w) A (eval x env) (fun v s' => ∃ y, y ∈ ls ∧ Sc.of v = some (.str y) ∧ Fs prog w hB nm U W env p cs (k + 1) σ s'.heap ∧ Fr (p :: W) s s') E s := by
  obtain ⟨f, o, fd, b, hf, ho, hd, _⟩ := fnWith_of hpi
  have hf : nsIn K mainGlobals (fnm 54) = some (some (.ref f)) := hf
  obtain ⟨a, b0, pa, ha, hb0⟩ := X.pen
  have C := X.cx pa
  obtain ⟨gp, pe, me, pos, rfl, g1, g3, h3, h4⟩ := call2_inv hx
  clear hx
  refine call_name (glob_ok T.B C.base C.fn C.gl (C.kind _ _ g3 (by decide)) g1 hf ?_)
  refine callW_ok (f := .none) (first := []) h4 ((evs_ok T (.cons (.var 1) (.cons (.lst (esOf ls)) .nil))).step (tmp := false) (ps := [.pen p cs (a : Int) b0, .lst (mS ls)]) h3 h4 (by
      have e1 : ev F G false ((F2 σ).set 1 (.val (.pen p cs (a : Int) b0))) (.var 1) = some (.pen p cs (a : Int) b0) := rfl
      rw [evs_c, e1, evs_c, ev_strs F G false _ hl1]; rfl) C R.less.less fun us s₃ k₃ r₃ C₃ => ⟨⟨C.base.trans (Keeps.ext k₃) _ _ (T.B.kin _ _ ho), hd⟩, ?_⟩)
  replace r₃ := pen_any r₃
  obtain ⟨u1, rfl, r1⟩ := r₃
  have X₃ := X.go (Keeps.ext k₃)
  refine wpAny_mono (pick_ok T hpi hdr hf R C₃.base X₃.pen C₃.live C₃.new hk r1 hl0 hl1 X.n X.pn) (fun dv s₄ h₄ => ?_) fun _ _ e => e
  obtain ⟨y, hy, hyv, hp4, hfr⟩ := h₄
  exact ⟨y, hy, hyv, X₃.fr hfr hp4, (Fr.kp k₃).tr hfr.up⟩
end
end Mine

end
section
open PySem PySem.W PyProof.Rows PySem.Calls
open PySem.SeqAt PySem.SeqRoads2
set_option Elab.async false
set_option autoImplicit false
set_option linter.unusedVariables false
namespace Mine
section
variable {prog : Program} {w : World} {hB : Heap} {K : Frag} {F : Fns} {G : Gls} {n fuel : Nat}
variable {nm : Nms} {U W : List Addr} {env : Env} {p : Addr} {cs : List Int} {k : Nat} {σ : Slot}

theorem pen_words : penN ≠ Str.ofString "words" := by
  rw [← beq_eq_false_iff_ne, seq_beq]; decide +kernel
theorem pen_lap : penN ≠ Str.ofString "lap" := by
  rw [← beq_eq_false_iff_ne, seq_beq]; decide +kernel
theorem sl_words {x : Str} (h : slIs sl_law 2 x = true) : x = Str.ofString "words" := (Option.some.inj (Option.some.inj (slIs_eq h))).symm
theorem sl_lap {x : Str} (h : slIs sl_law 3 x = true) : x = Str.ofString "lap" := (Option.some.inj (Option.some.inj (slIs_eq h))).symm
theorem Fs.pen_bd {s : Shared} {t : Addr} {x : Str} {v : Value} {h' : Heap} (X : Fs prog w hB nm U W env p cs k σ s.heap) (B : Bd env t x v s.heap h') : PenS (U ++ W) h' p cs k :=
  X.pen.mv fun c o hc => B.mv c o fun q => hc (List.mem_append_right _ (q ▸ B.tW X.X))
theorem fs_words {A : Around} {s : Shared} {x : Str} {v : Value} {c : Sc} {E : Value → Shared → Prop} (X : Fs prog w hB nm U W env p cs k σ s.heap) (hk : kdL nm x = true) (hx : slIs sl_law 2 x = true) (hv : Sc.of v = some c) :
    wpAny (model prog w) A (storeName env x v) (fun _ s' => Fs prog w hB nm U W env p cs k (.val (.sc c)) s'.heap ∧ Fr (p :: W) s s') E s := by
  refine store_ok X.X hk fun t h' tk B => ⟨⟨X.X.bindV (slIs_eq hx) B (p := .sc c) hv, (fun _ e => nomatch e), ?_, X.pen_bd B, X.n⟩, (B.fr X.X).upW⟩
  have := sl_words hx
  subst this
  exact B.rest _ _ pen_words X.l
theorem fs_lap {A : Around} {s : Shared} {x : Str} {v : Value} {c : Sc} {E : Value → Shared → Prop} (X : Fs prog w hB nm U W env p cs k σ s.heap) (hk : kdL nm x = true) (hx : slIs sl_law 3 x = true) (hv : Sc.of v = some c) :
    wpAny (model prog w) A (storeName env x v) (fun _ s' => Fs prog w hB nm U W env p cs k σ s'.heap ∧ Fr (p :: W) s s') E s := by
  refine store_ok X.X hk fun t h' tk B => ⟨⟨?_, X.ow, ?_, X.pen_bd B, X.n⟩, (B.fr X.X).upW⟩
  · refine (X.X.bindV (slIs_eq hx) B (p := .sc c) hv).forget (by simp) fun j τ hj => ?_
    by_cases e : j = 3
    · subst e; left; cases hj; rfl
    · right; rw [List.getElem?_set_ne (Ne.symm e)]; exact hj
  · have := sl_lap hx
    subst this
    exact B.rest _ _ pen_lap X.l

/-- a text that the law may have drawn -/
noncomputable def TxtOk (m : Nat) (y : List Nat) : Prop := okT y ∧ y.length ≤ m
theorem TxtOk.add {m m' : Nat} {y z : List Nat} (a : TxtOk m y) (b : TxtOk m' z) : TxtOk (m + m') (y ++ z) := by
  refine ⟨fun c hc => ?_, ?_⟩
  · replace hc := List.mem_append.mp hc
    rcases hc with hc | hc
    · exact a.1 c hc
    · exact b.1 c hc
  · have := a.2; have := b.2; rw [List.length_append]; omega
theorem TxtOk.strip {m : Nat} {y : List Nat} (a : TxtOk m y) : TxtOk m (stripL 32 y) := by
  replace y := strip_seg y
  obtain ⟨x, z, h1, h2, _⟩ := y
  rw [h2]
  refine ⟨fun c hc => a.1 c (List.mem_of_mem_drop (List.mem_of_mem_take hc)), ?_⟩
  have := a.2
  rw [List.length_take, List.length_drop]; omega
noncomputable abbrev drawn (ls : List (List Nat)) (m : Nat) : Bool := ls.all fun y => Nat.ble y.length m && y.all fun c => signA.contains c
theorem drawn_ok {ls : List (List Nat)} {m : Nat} (h : drawn ls m = true) {y : List Nat} (hy : y ∈ ls) : TxtOk m y := by
  have := List.all_eq_true.mp h y hy
  rw [Bool.and_eq_true] at this
  exact ⟨fun c hc => by simpa using List.all_eq_true.mp this.2 c hc, Nat.le_of_ble_eq_true this.1⟩

/-- words = .. -/
noncomputable def asTo (nm : Nms) (i : Nat) (chk : PySem.Expr → Bool) (x : Stmt) : Bool := any3 (yAsg x) fun t v _ => any2 (xName t) fun n p => kdL nm n && (slIs sl_law i n && (swOk nm n p.line v && (!is4 (xLC v) && chk v)))
noncomputable def wordsTo (nm : Nms) (chk : PySem.Expr → Bool) (x : Stmt) : Bool := asTo nm 2 chk x
inductive IAs (nm : Nms) (i : Nat) (chk : PySem.Expr → Bool) : Stmt → Prop
  | mk (x : Str) (px : Pos) (v : PySem.Expr) (pos : Pos) (h1 : kdL nm x = true) (h2 : slIs sl_law i x = true) (h3 : swOk nm x px.line v = true) (h4 : is4 (xLC v) = false) (h5 : chk v = true) : IAs nm i chk (.Assign [.Name x px] v pos)
theorem asTo_inv {nm : Nms} {i : Nat} {chk : PySem.Expr → Bool} {x : Stmt} (h : asTo nm i chk x = true) : IAs nm i chk x := by
  replace h := any3_e h
  induction h with | mk tx v pos g =>
  replace g := any2_e g
  induction g with | mk x px g =>
  obtain ⟨h1, h2, h3, h4, h5⟩ := and_t5 g
  exact ⟨x, px, v, pos, h1, h2, h3, not_t h4, h5⟩
theorem fs_assign {A : Around} {s : Shared} {x : Stmt} {chk : PySem.Expr → Bool} {P : List Nat → Prop} {k' : Nat} {E : Value → Shared → Prop} (hx : wordsTo nm chk x = true)
    (h : ∀ v, chk v = true → wpAny (model prog w) A (eval v env) (fun u s' => ∃ y, P y ∧ Sc.of u = some (.str y) ∧ Fs prog w hB nm U W env p cs k' σ s'.heap ∧ Fr (p :: W) s s') E s) :
    wpAny (model prog w) A (PySem.exec x env) (fun fl s' => fl = .next ∧ ∃ y, P y ∧ Fs prog w hB nm U W env p cs k' (.val (.sc (.str y))) s'.heap ∧ Fr (p :: W) s s') E s := by
  replace hx := asTo_inv hx
  obtain ⟨x, px, v, pos, h1, h2, h3, h4, h5⟩ := hx
  refine wpAny_Assign_Name (wpAny_mono (h v h5) (fun u s₁ h₁ => ?_) fun _ _ e => e) (swaps_false h3 h4)
  obtain ⟨y, hy, hu, X₁, f₁⟩ := h₁
  exact wpAny_mono (fs_words X₁ h1 h2 hu) (fun _ s₂ h₂ => ⟨rfl, y, hy, h₂.1, f₁.tr h₂.2⟩) fun _ _ e => e

/-- words + pick + pick -/
noncomputable def catX (nm : Nms) (l1 l2 : List (List Nat)) (x : PySem.Expr) : Bool := any4 (xBin x) fun u o c _ => any4 (xBin u) fun a o' b _ => decide (o = .Add) && (decide (o' = .Add) && (isE nm sl_law (.var 2) a && (pickX nm l1 b && pickX nm l2 c)))
inductive ICat (nm : Nms) (l1 l2 : List (List Nat)) : PySem.Expr → Prop
  | mk (a b c : PySem.Expr) (p1 p2 : Pos) (h1 : isE nm sl_law (.var 2) a = true) (h2 : pickX nm l1 b = true) (h3 : pickX nm l2 c = true) : ICat nm l1 l2 (.BinOp (.BinOp a .Add b p1) .Add c p2)
theorem cat_inv {nm : Nms} {l1 l2 : List (List Nat)} {x : PySem.Expr} (h : catX nm l1 l2 x = true) : ICat nm l1 l2 x := by
  replace h := any4_e h
  induction h with | mk u o c p2 g =>
  replace g := any4_e g
  induction g with | mk a o' b p1 g =>
  obtain ⟨e1, e2, c1, c2, c3⟩ := and_t5 g
  cases of_decide_eq_true e1
  cases of_decide_eq_true e2
  exact ⟨a, b, c, p1, p2, c1, c2, c3⟩
theorem add_str_ok {A : Around} {s : Shared} {u v : Value} {y z : List Nat} {Q E : Value → Shared → Prop} (hA : A.handled = none) (hu : Sc.of u = some (.str y)) (hv : Sc.of v = some (.str z)) (hl : y.length + z.length ≤ 60000)
    (hQ : ∀ x s', Keeps s s' → Sc.of x = some (.str (y ++ z)) → Q x s') : wpAny (model prog w) A (binaryOp .Add u v) Q E s := by
  have hb : bop .add (.sc (.str y)) (.sc (.str z)) = some (.sc (.str (y ++ z))) := if_pos (by rw [List.length_append, lim_val]; exact Nat.le_trans hl (by decide))
  refine wpAny_mono (bop_ok (V := []) (W := []) hb (fun _ h => nomatch h) (p := .sc (.str y)) (q := .sc (.str z)) hu hv (fun l e => nomatch e) E) (fun x s' h => hQ x s' h.1 h.2) fun _ _ e => e
theorem fs_cat (T : Sys prog w hB K F G n) (hdr : fnChk K d_law_draw = true) (hpi : fnWith K d_law_pick pickChk = true) {l1 l2 : List (List Nat)} {m1 m2 m : Nat} {x : PySem.Expr} {A : Around} {s : Shared} {y : List Nat} {E : Value → Shared → Prop} (hx : catX nm l1 l2 x = true)
    (X : Fs prog w hB nm U W env p cs k (.val (.sc (.str y))) s.heap) (R : Room (n + 2) A) (hk : k ≤ 800) (hy : TxtOk m y) (h1 : drawn l1 m1 = true) (h2 : drawn l2 m2 = true) (e1 : 0 < l1.length) (e2 : l1.length ≤ 100) (e3 : 0 < l2.length) (e4 : l2.length ≤ 100) (hm : m + m1 + m2 ≤ 1000) :
    wpAny (model prog w) A (eval x env) (fun u s' => ∃ z, TxtOk (m + m1 + m2) z ∧ Sc.of u = some (.str z) ∧ Fs prog w hB nm U W env p cs (k + 2) (.val (.sc (.str y))) s'.heap ∧ Fr (p :: W) s s') E s := by
  replace hx := cat_inv hx
  obtain ⟨a, b, c, p1, p2, c1, c2, c3⟩ := hx
  refine wpAny_BinOp (wpAny_BinOp ((ev_ok T (.var 2)).step (tmp := true) (p := .sc (.str y)) c1 rfl X.X.cx R.less.less fun u s₁ k₁ r₁ _ => ?_))
  refine wpAny_mono (fs_pick T hdr hpi c2 (X.go (Keeps.ext k₁)) R (by omega) e1 e2) (fun v s₂ h₂ => ?_) fun _ _ e => e
  obtain ⟨z1, hz1, hv, X₂, f₂⟩ := h₂
  have t1 := drawn_ok h1 hz1
  refine add_str_ok R.1 r₁ hv (by have := hy.2; have := t1.2; omega) fun u2 s₃ k₃ hu2 => ?_
  refine wpAny_mono (fs_pick T hdr hpi c3 (X₂.go (Keeps.ext k₃)) R (by omega) e3 e4) (fun v2 s₄ h₄ => ?_) fun _ _ e => e
  obtain ⟨z2, hz2, hv2, X₄, f₄⟩ := h₄
  have t2 := drawn_ok h2 hz2
  have t12 := hy.add t1
  refine add_str_ok R.1 hu2 hv2 (by have := t12.2; have := t2.2; omega) fun u3 s₅ k₅ hu3 => ?_
  exact ⟨_, t12.add t2, hu3, X₄.go (Keeps.ext k₅), (Fr.kp k₁).tr (f₂.tr ((Fr.kp k₃).tr (f₄.tr (Fr.kp k₅))))⟩

/-- the if, the strip -/
inductive IGt (nm : Nms) (chk : PySem.Expr → Bool) : Stmt → Prop
  | mk (a b : PySem.Expr) (st : Stmt) (p1 p2 : Pos) (h1 : drawX nm 3 a = true) (h2 : notSet b = true) (h3 : isE nm sl_law (.k (.int 0)) b = true) (h4 : wordsTo nm chk st = true) : IGt nm chk (.If (.Compare a [.Gt] [b] p1) [st] [] p2)
noncomputable def ifX (nm : Nms) (x : Stmt) : Bool := any4 (yIf x) fun t y z _ => any4 (xCmp t) fun a os bs _ => any1 (oneL os) fun o => any1 (oneL bs) fun b => any1 (oneL y) fun st => decide (o = .Gt) && (z.isEmpty && (drawX nm 3 a && (notSet b && (isE nm sl_law (.k (.int 0)) b && wordsTo nm (fun v => isE nm sl_law (.meth .strip (.var 2) (.cons (.k (.str [32])) .nil)) v) st))))
theorem ifX_inv {nm : Nms} {x : Stmt} (h : ifX nm x = true) : IGt nm (fun v => isE nm sl_law (.meth .strip (.var 2) (.cons (.k (.str [32])) .nil)) v) x := by
  replace h := any4_e h
  induction h with | mk t y z p2 g =>
  replace g := any4_e g
  induction g with | mk a os bs p1 g =>
  replace g := any1_e g
  induction g with | mk o g =>
  replace g := any1_e g
  induction g with | mk b g =>
  replace g := any1_e g
  induction g with | mk st g =>
  obtain ⟨e1, h0, h1, h2, h3, h4⟩ := and_t6 g
  cases of_decide_eq_true e1
  cases List.isEmpty_iff.mp h0
  exact ⟨a, b, st, p1, p2, h1, h2, h3, h4⟩
theorem fs_if (T : Sys prog w hB K F G n) (hdr : fnChk K d_law_draw = true) {m : Nat} {x : Stmt} {A : Around} {s : Shared} {y : List Nat} {E : Value → Shared → Prop} (hx : ifX nm x = true)
    (X : Fs prog w hB nm U W env p cs k (.val (.sc (.str y))) s.heap) (R : Room (n + 1) A) (hk : k ≤ 800) (hy : TxtOk m y) :
    wpAny (model prog w) A (PySem.exec x env) (fun fl s' => fl = .next ∧ ∃ z, TxtOk m z ∧ Fs prog w hB nm U W env p cs (k + 1) (.val (.sc (.str z))) s'.heap ∧ Fr (p :: W) s s') E s := by
  replace hx := ifX_inv hx
  obtain ⟨a, z, st, p1, p2, c1, c2, c3, c4⟩ := hx
  refine wpAny_If (wpAny_isTrue_Compare1 (wpAny_mono (fs_draw T hdr c1 X R (by omega) (by decide) (by decide)) (fun u s₁ h₁ => ?_) fun _ _ e => e) (notSet_eq c2))
  obtain ⟨d, hd, _, _, X₁, f₁⟩ := h₁
  refine (ev_ok T (.k (.int 0))).step (tmp := true) (p := .sc (.int 0)) c3 rfl X₁.X.cx R.less fun v s₂ k₂ r₂ _ => ?_
  have X₂ := X₁.go (Keeps.ext k₂)
  have hc : cop .gt (.sc (.int d)) (.sc (.int 0)) = some (decide (0 < d)) := rfl
  refine wpAny_mono (cop_ok (W := []) (W' := []) (p := .sc (.int d)) (q := .sc (.int 0)) hc hd (r₂.less fun _ h => nomatch h) (by have := R.2.2; omega) E) (fun c s₃ h₃ => ?_) fun _ _ e => e
  obtain ⟨rfl, k₃⟩ := h₃
  have X₃ := X₂.go (Keeps.ext k₃)
  have f₃ : Fr (p :: W) s s₃ := f₁.tr (Fr.kp (Keeps.trans k₂ k₃))
  refine wpAny_truthy_bool ?_
  split
  · refine wpAny_execs_cons (wpAny_mono (fs_assign (P := TxtOk m) c4 fun v hv => wpAny_mono (ev_ok T (.meth .strip (.var 2) (.cons (.k (.str [32])) .nil)) _ _ _ _ _ _ _ _ _ true (.sc (.str (stripL 32 y))) E hv rfl X₃.X.cx R.less) (fun u s₄ h₄ => ⟨_, hy.strip, h₄.2, X₃.go (Keeps.ext h₄.1), Fr.kp h₄.1⟩) fun _ _ e => e) (fun fl s₅ h₅ => ?_) fun _ _ e => e)
    obtain ⟨rfl, z', hz', X₅, f₅⟩ := h₅
    exact wpAny_execs_nil ⟨rfl, z', hz', X₅, f₃.tr f₅⟩
  · exact wpAny_execs_nil ⟨rfl, y, hy, X₃, f₃⟩
end
end Mine

end
section
open PySem PySem.W PyProof.Rows PySem.Calls
open PySem.SeqAt PySem.SeqRoads2
set_option Elab.async false
set_option autoImplicit false
set_option linter.unusedVariables false
set_option maxRecDepth 100000
namespace Mine
theorem list_keys_none : typeLookup (.type "list") "keys" = pure none := by rw [typeLookup_type, builtinLookup_eq_fast]; kernel_rfl
section
variable {prog : Program} {w : World} {A : Around} {E : Value → Shared → Prop} {s : Shared}
theorem keys_miss {l : Addr} {xs : Array Value} {Q : Option Value → Shared → Prop} (hl : s.heap.PlainList l xs) (hA : A.handled = none)
    (h : ∀ h' tk, Ext s.heap h' → Q none { s with heap := h', toks := tk }) : wpAny (model prog w) A (getAttr? (.ref l) "keys") Q E s := by
  obtain ⟨k, hx⟩ := hl
  obtain ⟨hp, g, d, tk, os⟩ := s
  have hT : ∀ tk', (⟨hp, g, d, tk', os⟩ : Shared).TypeIs (.ref l) "list" := fun _ => ⟨_, hx, rfl⟩
  have f1 := sub_AttributeError
  have f3 := F.slot_list_getattribute.lookup
  have f4 := F.slot_list_getattribute.bind (.ref l)
  have f5 := am_list_getattr_none
  unfold getAttr? getAttrBy? getAttrBy
  repeat (any_goals (first | assumption | exact hT _ | ((with_reducible show wpAny _ _ (call (Value.builtin "list.__getattribute__") _ _) _ _ _); refine call_meets F.slot_list_getattribute (hT _) am_entry_list_getattribute (F.args_list_getattribute_2 _ _) (meets_getattribute_miss_list l xs k _ "keys" _ list_keys_none (by decide +kernel)) ⟨hx, hA, fun h' tk' e hx' => ?_⟩) | wp_step))
  obtain ⟨t', u', he⟩ := hx'.there
  have hE : Shared.TypeIs ⟨h', g, d, tk', os⟩ (.ref e) "AttributeError" := ⟨_, he, rfl⟩
  show wpAny _ _ (getattributeRaised _ _ _ _ _ _ _) _ _ _
  unfold getattributeRaised
  repeat (any_goals (first | assumption | wp_step))
  exact h h' tk' hx'.keeps

theorem entry_loop : entryFor table "dict.update.loop" = some Builtin.«dict.update.loop» := entryFor_of_tree (by kernel_rfl)
theorem plain_loop : plainId "dict.update.loop" = true := by decide +kernel
theorem take_lookup {ps : List (Int × Sc)} (hnd : (ps.map (·.1)).Nodup) {i : Nat} {k : Int} {c : Sc} (h : ps[i]? = some (k, c)) (x : Int) : (ps.take (i + 1)).lookup x = if x = k then some c else (ps.take i).lookup x := by
  rw [List.take_add_one, h, Option.toList_some, List.lookup_append]
  have hk : (ps.take i).lookup k = none := by
    rw [List.lookup_eq_none_iff]
    intro p hp
    rw [bne_iff_ne]
    rintro rfl
    obtain ⟨j, hj⟩ := List.getElem?_of_mem hp
    rw [List.getElem?_take] at hj
    split at hj
    · rename_i hlt
      have h1 : (ps.map (·.1))[j]? = some p.1 := by rw [List.getElem?_map, hj]; rfl
      have h2 : (ps.map (·.1))[i]? = some p.1 := by rw [List.getElem?_map, h]; rfl
      have hl : j < (ps.map (·.1)).length := (List.getElem?_eq_some_iff.mp h1).1
      have := (List.getElem?_inj hl hnd).mp (h1.trans h2.symm)
      omega
    · cases hj
  by_cases e : x = k
  · subst e; rw [hk]; simp
  · rw [if_neg e]
    have : (x == k) = false := beq_eq_false_iff_ne.mpr e
    simp [List.lookup_cons, this]
theorem dict_loop {R : Result → Shared → Prop} {I d : Addr} {fp wr : List Addr} {ps : List (Int × Sc)} {P : Nat → Value → Prop} {St : Nat → Heap → Prop} (W : Walks prog w A.in1 I fp wr ps.length P St) (hdf : d ∉ fp) (hnd : (ps.map (·.1)).Nodup) (hlen : ps.length ≤ 1000) {h0 : Heap}
    (hP : ∀ i v, P i v → ∃ T t x k c, v = .ref T ∧ T ∉ wr ∧ T ≠ d ∧ IsTup h0 T #[.int k t, x] ∧ ps[i]? = some (k, c) ∧ Sc.of x = some c) :
    ∀ (k i : Nat) (z : Int) (t0 : Tok) (s : Shared) (kvs : List (Int × Value)), ps.length - i = k → i ≤ ps.length → St i s.heap → (∀ b o, b ∉ wr → b ≠ d → h0.get? b = some o → s.heap.get? b = some o) →
      s.heap.DictOf (intKind prog w) d kvs → kvs.length ≤ i → (∀ x, (valueAt kvs x).map Sc.of = ((ps.take i).lookup x).map some) →
      (∀ h' tk kvs', h'.DictOf (intKind prog w) d kvs' → (∀ x, (valueAt kvs' x).map Sc.of = (ps.lookup x).map some) → (∀ b o, b ∉ wr → b ≠ d → s.heap.get? b = some o → h'.get? b = some o) → R (.ok (.ret .none)) { s with heap := h', toks := tk }) →
      codeAny (model prog w) A (.builtin "dict.update.loop" ⟨[.ref d, .ref I, .int z t0, .none], []⟩) R s := by
  have hdw : d ∉ wr := fun h => hdf (W.sub _ h)
  intro k
  induction k with
  | zero =>
    intro i z t0 s kvs hk hi hst hkp hd hl hv hR
    have hin : i = ps.length := by omega
    subst hin
    refine codeAny_builtin entry_loop ?_
    rw [Around.under_plainId plain_loop _]
    show wpAny _ A.in1 (pyNext (.ref I) >>= _) _ _ s
    refine wpAny_bind (W.done s _ _ hst fun h' tk hm => ?_)
    show wpAny _ A.in1 (Builtin.Dict.addKeywords d [] >>= fun _ => ret Value.none) _ _ _
    unfold Builtin.Dict.addKeywords
    refine wpAny_bind (wpAny_pure (wpAny_pure ?_))
    refine hR h' tk kvs ?_ (fun x => by rw [hv, List.take_length]) fun b o hb _ e => hm b o hb e
    obtain ⟨o, es, ep, ho, r⟩ := hd
    exact ⟨o, es, ep, hm d o hdw ho, r⟩
  | succ k ih =>
    intro i z t0 s kvs hk hi hst hkp hd hl hv hR
    have hlt : i < ps.length := by omega
    refine codeAny_builtin entry_loop ?_
    rw [Around.under_plainId plain_loop _]
    show wpAny _ A.in1 (pyNext (.ref I) >>= _) _ _ s
    refine wpAny_bind (W.item i s _ _ hlt hst fun v h' tk hPv hst' hm => ?_)
    obtain ⟨T, t, x, key, c, rfl, hTw, hTd, hT, hps, hx⟩ := hP i v hPv
    have hT' : IsTup h' T #[.int key t, x] := let ⟨o, ho, r⟩ := hT; ⟨o, hm T o hTw (hkp T o hTw hTd ho), r⟩
    have hd' : h'.DictOf (intKind prog w) d kvs := by
      obtain ⟨o, es, ep, ho, r⟩ := hd
      exact ⟨o, es, ep, hm d o hdw ho, r⟩
    have hty : Shared.TypeIs { s with heap := h', toks := tk } (.ref T) "tuple" := by
      obtain ⟨o, ho, hc, _⟩ := hT'
      exact ⟨o, ho, hc⟩
    refine wpAny_bind (wpAny_holding (wpAny_bind (wpAny_tryCatch ?_)))
    unfold Builtin.Dict.pairItems
    refine wpAny_bind (wpAny_typeOf hty ?_)
    rw [if_pos (by decide)]
    have hseq : ∃ o nn, h'.get? T = some o ∧ o.data = .seq #[.int key t, x] nn := by
      obtain ⟨o, ho, _, nn, hdat⟩ := hT'
      exact ⟨o, nn, ho, hdat⟩
    obtain ⟨o, nn, ho, hdat⟩ := hseq
    refine wpAny_bind (wpAny_seqItems ho hdat (wpAny_pure ?_))
    refine wpAny_holding (wpAny_dictSet_pairs (intKind_is _ _ _ _) hd' (fun h₂ hd₂ hs₂ => ?_) (hsz := by rw [sizeLine_eq]; omega))
    refine wpAny_pure ⟨plainId_quiet plain_loop _, ih (i + 1) (z + 1) 0 _ _ (by omega) hlt (W.frame _ _ _ hst' fun b hb o e => hs₂.extBut b o (fun q => hdf (q ▸ hb)) e) (fun b o hb hbd e => hs₂.extBut b o hbd (hm b o hb (hkp b o hb hbd e))) hd₂ ?_ (fun y => ?_) fun h₃ tk₃ kvs₃ hd₃ hv₃ hk₃ => ?_⟩
    · exact Nat.le_trans (stored_length_le _ _ _) (Nat.succ_le_succ hl)
    · rw [valueAt_stored, take_lookup hnd hps]
      split
      · rw [Option.map_some, hx]; rfl
      · exact hv y
    · exact hR h₃ tk₃ kvs₃ hd₃ hv₃ fun b o hb hbd e => hk₃ b o hb hbd (hs₂.extBut b o hbd (hm b o hb e))
end
end Mine

end
section
open PySem PySem.W PyProof.Rows PySem.Calls
open PySem.SeqAt PySem.SeqRoads2
set_option Elab.async false
set_option autoImplicit false
set_option linter.unusedVariables false
set_option maxRecDepth 100000
namespace Mine
section
variable {prog : Program} {w : World} {A : Around} {s : Shared}
theorem call_dict {V : List Addr} {l : Addr} {ys : Array Value} {ps : List (Int × Sc)} {E : Value → Shared → Prop} (hA : A.handled = none) (hV : Live V s.heap) (hB' : ∃ mg, s.heap.Ns mainGlobals mg) (hl : s.heap.PlainList l ys) (hsz : ys.size = ps.length)
    (hT : ∀ (i : Nat) v, ys[i]? = some v → ∃ T t x k c, v = .ref T ∧ IsTup s.heap T #[.int k t, x] ∧ ps[i]? = some (k, c) ∧ Sc.of x = some c) (hnd : (ps.map (·.1)).Nodup) (hlen : ps.length ≤ 1000) :
    wpAny (model prog w) A (call (.type "dict") [.ref l]) (fun v s' => Keeps s s' ∧ RepI prog w V s'.heap ps v) E s := by
  refine callType_codes (Q₁ := fun obj s₁ => obj = .ref s.heap.objs.size ∧ s₁ = { s with heap := s.heap.push { cls := .type "dict", data := .dict #[] } }) F.kt_called_dict (F.kt_typeCall_dict_1 _) F.entry_dict_init (kt_code_dict_new _ ⟨rfl, rfl⟩) ?_
  rintro obj s₁ ⟨rfl, rfl⟩
  have hnew : (s.heap.push { cls := .type "dict", data := .dict #[] }).DictOf (intKind prog w) s.heap.objs.size [] := Heap.DictOf.new s.heap
  have x1 : Ext s.heap (s.heap.push { cls := .type "dict", data := .dict #[] }) := ext_push _ _
  obtain ⟨nl, ol⟩ := hl
  have hl1 : (s.heap.push { cls := .type "dict", data := .dict #[] }).PlainList l ys := ⟨nl, x1 _ _ ol⟩
  have hty : Shared.TypeIs { s with heap := s.heap.push { cls := .type "dict", data := .dict #[] } } (.ref l) "list" := ⟨_, x1 _ _ ol, rfl⟩
  refine ⟨hnew.typeIs, F.args_dict_init_2 _ _, ?_⟩
  unfold Builtin.«dict.__init__»
  refine wpAny_bind ?_
  unfold Builtin.Dict.selfAndRest
  refine wpAny_bind (wpAny_notOrdered_dict hnew.typeIs ?_)
  show wpAny _ _ (pure (s.heap.objs.size, [Value.ref l])) _ _ _
  refine wpAny_pure ?_
  show wpAny _ _ (Builtin.Dict.updateFrom "dict.__init__" s.heap.objs.size (.ref l) [] .none) _ _ _
  unfold Builtin.Dict.updateFrom
  refine wpAny_bind (wpAny_typeOf hty ?_)
  rw [if_pos (by decide)]
  refine wpAny_bind (keys_miss hl1 (by simp [hA]) fun h₂ tk₂ x2 => ?_)
  simp only [Option.isNone_none, if_true]
  refine wpAny_bind (wpAny_rule ?_)
  have hl2 : h₂.PlainList l ys := ⟨nl, x2 _ _ (x1 _ _ ol)⟩
  refine wpAny_bind (wpAny_pyIter_list hl2.isList ?_)
  have hne1 : l ≠ h₂.objs.size := Nat.ne_of_lt (Heap.lt_size (x2 _ _ (x1 _ _ ol)))
  have hd2 : h₂.get? s.heap.objs.size = some { cls := .type "dict", data := .dict #[] } := x2 _ _ (Heap.get?_push_size _ rfl)
  have hne2 : s.heap.objs.size ≠ h₂.objs.size := Nat.ne_of_lt (Heap.lt_size hd2)
  have hne3 : s.heap.objs.size ≠ l := Nat.ne_of_gt (Heap.lt_size ol)
  have x3 : Ext h₂ (h₂.push { cls := .type "list_iterator", data := .fields #[.ref l, .int 0 0] }) := ext_push _ _
  have old : ∀ b o, s.heap.get? b = some o → b ≠ h₂.objs.size ∧ b ≠ s.heap.objs.size := fun b o e =>
    ⟨Nat.ne_of_lt (Heap.lt_size (x2 _ _ (x1 _ _ e))), Nat.ne_of_lt (Heap.lt_size e)⟩
  have x13 : Ext s.heap (h₂.push { cls := .type "list_iterator", data := .fields #[.ref l, .int 0 0] }) := (x1.trans x2).trans x3
  refine wpAny_pure ⟨plainId_quiet plain_loop _, ?_⟩
  refine dict_loop (ps := ps) (hsz ▸ Walks.list (by simp [hA]) h₂.objs.size l hne1 ys) (by simp only [List.mem_cons, List.not_mem_nil, or_false, not_or]; exact ⟨hne2, hne3⟩) hnd hlen (h0 := s.heap) (fun i v hv => ?_)
    ps.length 0 0 0 _ [] (by omega) (Nat.zero_le _) ⟨⟨_, Heap.get?_push_size _ rfl, rfl, rfl⟩, (hl2.isList.push _)⟩ (fun b o _ _ e => x13 _ _ e) ?_ (Nat.le_refl _) (fun x => rfl) fun h' tk kvs' hd' hv' hk' => ?_
  · obtain ⟨T, t, x, k, c, rfl, ht, hp, hx⟩ := hT i v hv
    have : ∃ o, s.heap.get? T = some o := let ⟨o, ho, _⟩ := ht; ⟨o, ho⟩
    obtain ⟨o, ho⟩ := this
    exact ⟨T, t, x, k, c, rfl, by simp only [List.mem_cons, List.not_mem_nil, or_false]; exact (old T o ho).1, (old T o ho).2, ht, hp, hx⟩
  · obtain ⟨o, es, ep, ho, r⟩ := hnew
    exact ⟨o, es, ep, x3 _ _ (x2 _ _ ho), r⟩
  · have kx : Ext s.heap h' := fun b o e => hk' b o (by simp only [List.mem_cons, List.not_mem_nil, or_false]; exact (old b o e).1) (old b o e).2 (x13 _ _ e)
    exact ⟨rfl, ⟨h', tk, rfl, kx⟩, _, _, rfl, fun hm => by obtain ⟨o, ho⟩ := hV _ hm; exact absurd rfl (old _ o ho).2, not_sys hB' rfl, hd'.mapOf, hv'⟩
end
end Mine

end
section
open PySem PySem.W PyProof.Rows PySem.Calls
open PySem.SeqAt PySem.SeqRoads2
set_option Elab.async false
set_option autoImplicit false
set_option linter.unusedVariables false
set_option maxRecDepth 100000
namespace Mine
section
variable {prog : Program} {w : World} {A : Around} {s : Shared}

/-- the j-th thing of a list is a new tuple -/
noncomputable def TupsAt (h : Heap) (no : List Addr) (G : Nat → Array Value → Prop) (ys : Array Value) : Prop := ∀ (j : Nat) y, ys[j]? = some y → ∃ T its, y = .ref T ∧ T ∉ no ∧ IsTup h T its ∧ G j its
theorem TupsAt.mv {h h' : Heap} {no : List Addr} {G : Nat → Array Value → Prop} {ys : Array Value} (x : TupsAt h no G ys) (e : ∀ b o, b ∉ no → h.get? b = some o → h'.get? b = some o) : TupsAt h' no G ys := fun j y hj => by
  obtain ⟨T, its, rfl, hn, ⟨o, ho, r⟩, hG⟩ := x j y hj
  exact ⟨T, its, rfl, hn, ⟨o, e T o hn ho, r⟩, hG⟩
theorem TupsAt.less {h : Heap} {no no' : List Addr} {G : Nat → Array Value → Prop} {ys : Array Value} (x : TupsAt h no G ys) (e : ∀ b, b ∈ no' → b ∈ no) : TupsAt h no' G ys := fun j y hj => by
  obtain ⟨T, its, rfl, hn, r⟩ := x j y hj
  exact ⟨T, its, rfl, fun m => hn (e _ m), r⟩
theorem TupsAt.push {h : Heap} {no : List Addr} {G : Nat → Array Value → Prop} {ys : Array Value} {T : Addr} {its : Array Value} (x : TupsAt h no G ys) (hn : T ∉ no) (hT : IsTup h T its) (hG : G ys.size its) : TupsAt h no G (ys.push (.ref T)) := fun j y hj => by
  rw [Array.getElem?_push] at hj
  split at hj
  · rename_i e; subst e; cases hj; exact ⟨T, its, rfl, hn, hT, hG⟩
  · exact x j y hj

theorem loopT {elt iter : PySem.Expr} {x : Str} {px pos : Pos} {scope : Scope} {I D : Addr} {fp wr : List Addr} {n : Nat} {P : Nat → Value → Prop} {St : Nat → Heap → Prop} {cenv : Env} {m : Str → Option Value} {R : Result → Shared → Prop}
    (Wk : Walks prog w A I fp wr n P St) (G : Nat → Array Value → Prop) (hlive : ∀ i h, St i h → ∀ b ∈ wr, ∃ o, h.get? b = some o) (hx : cenv.kindOf x = some .local)
    (hp : (cenv.scope.kind == .class || (cenv.scope.kind == .module && cenv.locals != cenv.globals)) = false) (hDC : D ≠ cenv.locals) (hDf : D ∉ fp) (hCf : cenv.locals ∉ fp) (hn0 : n ≤ sizeLine)
    (hst : St 0 s.heap) (hacc : s.heap.PlainList D #[]) (hn : s.heap.Ns cenv.locals m)
    (helt : ∀ i v s₂ m₂ E, P i v → s₂.heap.Ns cenv.locals m₂ → m₂ x = some v → (∀ b o, b ∉ cenv.locals :: D :: wr → s.heap.get? b = some o → s₂.heap.get? b = some o) →
      wpAny (model prog w) A (eval elt cenv) (fun y s₃ => (∃ T its, y = .ref T ∧ s₂.heap.get? T = none ∧ IsTup s₃.heap T its ∧ G i its) ∧ Keeps s₂ s₃) E s₂)
    (hR : ∀ h' tk m' ys, h'.Ns cenv.locals m' → h'.PlainList D ys → ys.size = n → TupsAt h' (cenv.locals :: D :: wr) G ys → (∀ b o, b ∉ cenv.locals :: D :: wr → s.heap.get? b = some o → h'.get? b = some o) → R (.ok .next) { s with heap := h', toks := tk }) :
    codeAny (model prog w) A (.compLoop (.ListComp elt [⟨.Name x px, iter, [], 0⟩] scope pos) 0 (.ref I) (.ref D) cenv) R s := by
  have hCw : cenv.locals ∉ wr := fun h => hCf (Wk.sub _ h)
  have hDw : D ∉ wr := fun h => hDf (Wk.sub _ h)
  have out : ∀ b, b ∉ cenv.locals :: D :: wr → b ≠ cenv.locals ∧ b ≠ D ∧ b ∉ wr := fun b hb => by simp only [List.mem_cons, not_or] at hb; exact hb
  refine codeAny_compLoop_tests
    (fun k s' => ∃ h' tk m' ys, s' = { s with heap := h', toks := tk } ∧ St ys.size h' ∧ h'.PlainList D ys ∧ h'.Ns cenv.locals m' ∧ TupsAt h' (cenv.locals :: D :: wr) G ys ∧ ys.size ≤ n ∧ k = n + 1 - ys.size ∧
      (∀ b o, b ∉ cenv.locals :: D :: wr → s.heap.get? b = some o → h'.get? b = some o)) ?_ (n + 1)
    ⟨s.heap, s.toks, m, #[], rfl, hst, hacc, hn, fun j y hj => by simp at hj, Nat.zero_le _, rfl, fun _ _ _ e => e⟩
  rintro k s' ⟨H, tk, m', ys, rfl, hst', hacc', hn', hT, hi, rfl, hk⟩
  by_cases hlt : ys.size < n
  · refine Wk.item ys.size _ _ _ hlt hst' fun v h₁ tk₁ hPv hst₁ hk₁ => ?_
    refine wpAny_assign_Name (wpAny_storeName_local hx (hn'.at' fun o e => hk₁ _ o hCw e) (fun h₂ hn₂ hs₂ => ?_) hp)
    have up : ∀ b o, b ∉ cenv.locals :: D :: wr → H.get? b = some o → h₂.get? b = some o := fun b o hb e => hs₂.extBut b o (out b hb).1 (hk₁ b o (out b hb).2.2 e)
    have hst₂ : St (ys.size + 1) h₂ := Wk.frame _ _ _ hst₁ fun b hb o e => hs₂.extBut b o (fun h => hCf (h ▸ hb)) e
    rw [List.forIn_nil]
    refine wpAny_pure ?_
    simp only [if_true]
    refine wpAny_mono (helt ys.size v _ _ _ hPv hn₂ (by simp) fun b o hb e => up b o hb (hk b o hb e)) (fun y s₄ h₄ => ?_) fun _ _ e => e
    obtain ⟨⟨T, its, rfl, hTn, hTt, hG⟩, h₄, tk₄, rfl, hk₄⟩ := h₄
    have hTC : T ≠ cenv.locals := by obtain ⟨_, _, _, ho, _⟩ := hn₂; exact ne_of_none_some hTn ho
    have hacc₂ : h₂.PlainList D ys := let ⟨nn, ho⟩ := hacc'; ⟨nn, hs₂.extBut D _ hDC (hk₁ D _ hDw ho)⟩
    have hTD : T ≠ D := by obtain ⟨_, ho⟩ := hacc₂; exact ne_of_none_some hTn ho
    have hTw : T ∉ wr := fun hm => by obtain ⟨o, ho⟩ := hlive _ _ hst₂ T hm; exact absurd rfl (ne_of_none_some hTn ho)
    refine wpAny_list_append_plain (hsz := by omega) (let ⟨nn, ho⟩ := hacc₂; ⟨nn, hk₄ _ _ ho⟩) fun h₅ hl₅ hs₅ => ?_
    have e5 : (ys.push (Value.ref T)).size = ys.size + 1 := by simp
    refine ⟨n + 1 - (ys.size + 1), by omega, h₅, tk₄, _, ys.push (.ref T), rfl, ?_, hl₅, (hn₂.keeps hk₄).sameBut hs₅ (Ne.symm hDC), ?_, by omega, by rw [e5], fun b o hb e => hs₅.extBut b o (out b hb).2.1 (hk₄ b o (up b o hb (hk b o hb e)))⟩
    · rw [e5]
      exact Wk.frame _ _ h₅ hst₂ fun b hb o e => hs₅.extBut b o (fun h => hDf (h ▸ hb)) (hk₄ b o e)
    · refine ((hT.mv up).mv fun b o _ e => hk₄ b o e).mv (fun b o hb e => hs₅.extBut b o (out b hb).2.1 e) |>.push ?_ ?_ hG
      · simp only [List.mem_cons, not_or]; exact ⟨hTC, hTD, hTw⟩
      · obtain ⟨o, ho, r⟩ := hTt
        exact ⟨o, hs₅.extBut T o hTD ho, r⟩
  · have hin : ys.size = n := by omega
    refine Wk.done _ _ _ (hin ▸ hst') fun h₁ tk₁ hk₁ => ?_
    exact hR h₁ tk₁ m' ys (hn'.at' fun o e => hk₁ _ o hCw e) (let ⟨nn, ho⟩ := hacc'; ⟨nn, hk₁ D _ hDw ho⟩) hin (hT.mv fun b o hb e => hk₁ b o (out b hb).2.2 e) fun b o hb e => hk₁ b o (out b hb).2.2 (hk b o hb e)

variable {hB : Heap} {nm : Nms} {sl : Sls} {ρ : List Slot} {Wo W : List Addr} {env : Env}
theorem compT_ok {x : Str} {c : Nat} {elt iter : PySem.Expr} {scope : Scope} {px pos : Pos} {p : PV} {xs : List Sc} {E : Value → Shared → Prop} (G : Nat → Array Value → Prop)
    (X : Cx prog w hB nm sl ρ Wo W env s.heap) (O : CompOk nm scope.names x scope.kind) (hset : notSet iter = true) (hA : A.handled = none) (hc : c < sl.length)
    (it : ∀ E, wpAny (model prog w) A (eval iter env) (fun v s' => Keeps s s' ∧ Rep prog w Wo s'.heap p v) E s) (hxs : items p = some xs) (len : xs.length ≤ lim)
    (hf : ∀ (i : Nat) q env' s' E, xs[i]? = some q → Cx prog w hB scope.names (innerSl sl scope.names c x) (ρ.set c (.val (.sc q))) Wo W env' s'.heap →
      wpAny (model prog w) A (eval elt env') (fun v s'' => (∃ T its, v = .ref T ∧ s'.heap.get? T = none ∧ IsTup s''.heap T its ∧ G i its) ∧ Keeps s' s'') E s') :
    wpAny (model prog w) A (eval (.ListComp elt [⟨.Name x px, iter, [], 0⟩] scope pos) env) (fun v s' => Keeps s s' ∧ ∃ D ys, v = .ref D ∧ s.heap.get? D = none ∧ s'.heap.PlainList D ys ∧ ys.size = xs.length ∧ TupsAt s'.heap [] G ys) E s := by
  obtain ⟨cl, hclos, hcl⟩ := closure_ok (env := env) scope fun y hy => X.cells y (O.free y hy)
  rw [eval_ListComp]
  refine wpAny_comprehension_free (use := none) rfl (folded_ok hset) hclos O.kind O.locals (wpAny_mono (it E) (fun xv s₁ h₁ => ?_) fun _ _ e => e)
  obtain ⟨k₁, r₁⟩ := h₁
  refine wpAny_mono (iter_ok hxs r₁) (fun iv s₂ h₂ => ?_) fun _ _ e => e
  obtain ⟨k₂, I, fp, P, St, rfl, Wk, hst, hfp, hI, hIo, hfV, hP⟩ := h₂
  have up : ∀ h₃ : Heap, (∀ b o, b ≠ I → s₂.heap.get? b = some o → h₃.get? b = some o) → Ext s.heap h₃ := fun h₃ hk b o e => by
    have e1 := Keeps.ext k₁ b o e
    exact hk b o (fun q => by rw [q, hI] at e1; cases e1) (Keeps.ext k₂ b o e1)
  have Wk' := Wk A hA
  refine wpAny_newObj_type (wpAny_newFunctionEnv O.noCell (by intro y hy; simp at hy) (fun h₁ hns₁ hsb₁ => ?_) O.kind)
  dsimp only at hns₁ hsb₁ ⊢
  generalize hH2 : s₂.heap.push { cls := .type "list", dict := none, data := .seq ([] : List Value).toArray } = H2 at hns₁ hsb₁ ⊢
  have hC : H2.objs.size = s₂.heap.objs.size + 1 := by rw [← hH2, Heap.size_push]
  have hDC : s₂.heap.objs.size ≠ H2.objs.size := by rw [hC]; exact Nat.ne_of_lt (Nat.lt_succ_self _)
  have below : ∀ b, b < s₂.heap.objs.size → b ≠ H2.objs.size ∧ b ≠ s₂.heap.objs.size := fun b hb => ⟨by rw [hC]; exact Nat.ne_of_lt (Nat.lt_succ_of_lt hb), Nat.ne_of_lt hb⟩
  have hDf : s₂.heap.objs.size ∉ fp := fun hm => Nat.lt_irrefl _ (hfp _ hm)
  have hCf : H2.objs.size ∉ fp := fun hm => by have := hfp _ hm; rw [hC] at this; exact Nat.lt_irrefl _ (Nat.lt_of_succ_lt this)
  have old : ∀ b o, s₂.heap.get? b = some o → h₁.get? b = some o := fun b o e => hsb₁.extBut b o (below b (Heap.lt_size e)).1 (Heap.get?_push_of_some _ (hH2 ▸ Heap.get?_push_of_some _ e))
  have hacc : h₁.PlainList s₂.heap.objs.size #[] := ⟨_, hsb₁.extBut _ _ hDC (Heap.get?_push_of_some _ (hH2 ▸ Heap.get?_push_size _ rfl))⟩
  have hst₁ : St 0 h₁ := Wk'.frame _ _ _ hst fun b _ o e => old b o e
  have hnw : ∀ b, b < s₂.heap.objs.size → b ≠ I → b ∉ H2.objs.size :: s₂.heap.objs.size :: [I] := fun b hb hI => by
    simp only [List.mem_cons, List.not_mem_nil, or_false, not_or]; exact ⟨(below b hb).1, (below b hb).2, hI⟩
  have loop : ∀ s₃ : Shared, s₃ = { s₂ with heap := h₁, toks := s₂.toks + ([] : List (Str × Value)).length } →
      codeAny (model prog w) A (.compLoop (.ListComp elt [⟨.Name x px, iter, [], 0⟩] scope pos) 0 (.ref I) (.ref s₂.heap.objs.size) (compEnvC scope cl H2.objs.size env))
        (compPost (model prog w) A E none (fun v s' => Keeps s s' ∧ ∃ D ys, v = .ref D ∧ s.heap.get? D = none ∧ s'.heap.PlainList D ys ∧ ys.size = xs.length ∧ TupsAt s'.heap [] G ys) (.ref s₂.heap.objs.size) H2.objs.size) s₃ := by
    rintro s₃ rfl
    refine loopT (s := { s₂ with heap := h₁, toks := s₂.toks + ([] : List (Str × Value)).length }) (cenv := compEnvC scope cl H2.objs.size env) Wk' G (fun i h st b hb => by rw [List.mem_singleton.mp hb]; exact hIo i h st) (lookup_relabel_local O.x) (by simp [compEnvC, relabel, O.kind]) hDC hDf hCf (Nat.le_trans len lim_le) hst₁ hacc hns₁ (fun i v s₄ m₄ E' hPv hn₄ hm₄ hk₄ => ?_) fun h' tk m' ys hn' hpl hsz hT hk => ?_
    · obtain ⟨q, hq, hs⟩ := hP i v hPv
      exact hf i q _ s₄ E' hq (inner_cx X O hcl (up _ fun b o hb e => hk₄ b o (hnw b (Heap.lt_size e) hb) (old b o e)) hc hn₄ hm₄ hs)
    · refine ⟨m', hn', fun h'' hs'' => ?_⟩
      have e2 : Ext s.heap h'' := up _ fun b o hb e => hs''.extBut b o (below b (Heap.lt_size e)).1 (hk b o (hnw b (Heap.lt_size e) hb) (old b o e))
      obtain ⟨h₂', t₂, e₂, _⟩ := Keeps.trans k₁ k₂
      have hDn : s.heap.get? s₂.heap.objs.size = none := none_of_ext (Keeps.ext (Keeps.trans k₁ k₂)) (fresh_none _)
      refine ⟨?_, s₂.heap.objs.size, ys, rfl, hDn, (let ⟨nn, ho⟩ := hpl; ⟨nn, hs''.extBut _ _ hDC ho⟩), hsz, (hT.mv fun b o hb e => hs''.extBut b o (fun q => hb (by rw [q]; exact List.mem_cons_self)) e).less fun b hb => by cases hb⟩
      subst e₂
      exact ⟨h'', tk, rfl, e2⟩
  exact codeAny_compStart_list (loop _ rfl) (Wk'.self 0 _ _ _ hst₁ (loop _ rfl))
end
end Mine

end
section
open PySem PySem.W PyProof.Rows PySem.Calls
open PySem.SeqAt PySem.SeqRoads2
set_option Elab.async false
set_option autoImplicit false
set_option linter.unusedVariables false
set_option maxRecDepth 100000
namespace Mine
noncomputable def d_worth : FD := { id := 31, np := 1, dfl := [], sl := [some (Str.ofString "alphabet"), none], body := .nil }
noncomputable abbrev rangeE : E := .bi .range (.cons (.bi .len (.cons (.var 0) .nil)) .nil)
noncomputable abbrev pairEs : Es := .cons (.idx (.var 0) (.var 1)) (.cons (.var 1) .nil)
noncomputable def pairComp (nm : Nms) (sl : Sls) (x : PySem.Expr) : Bool := anyC x fun y n u ifs sc => any3 (xTup y) fun es _ _ => ifs.isEmpty && (compScopeOk nm sc.names n sc.kind && (notSet u && (isE nm sl rangeE u &&
  (Nat.blt 1 sl.length && (isEs sc.names (innerSl sl sc.names 1 n) pairEs es && noStar es)))))
inductive IPairC (nm : Nms) (sl : Sls) : PySem.Expr → Prop
  | mk (es : List PySem.Expr) (q1 : Nat) (q2 : Pos) (x : Str) (px : Pos) (iter : PySem.Expr) (sc : Scope) (p3 : Pos) (c1 : compScopeOk nm sc.names x sc.kind = true) (c2 : notSet iter = true) (c3 : isE nm sl rangeE iter = true)
    (c5 : isEs sc.names (innerSl sl sc.names 1 x) pairEs es = true) (c6 : noStar es = true) : IPairC nm sl (.ListComp (.Tuple es q1 q2) [⟨.Name x px, iter, [], 0⟩] sc p3)
theorem pairComp_inv {nm : Nms} {sl : Sls} {x : PySem.Expr} (h : pairComp nm sl x = true) : IPairC nm sl x := by
  replace h := anyC_e h
  induction h with | mk y n px u ifs sc p g =>
  replace g := any3_e g
  induction g with | mk es q1 q2 g =>
  obtain ⟨h0, h1, h2, h3, h4, h5, h6⟩ := and_t7 g
  cases List.isEmpty_iff.mp h0
  exact ⟨es, q1, q2, n, px, u, sc, p, h1, h2, h3, h5, h6⟩
noncomputable def worthChk (nm : Nms) (sl : Sls) (b : List Stmt) : Bool := any1 (oneL b) fun s => any2 (yRet s) fun r _ => any3 (xCall r) fun c as _ => any2 (xName c) fun g _ => any1 (oneL as) fun e =>
  nameOk g && (seq g (biName .dict) && (kdIs nm g .globalImplicit && (pairComp nm sl e && noStar [e])))
inductive IWorth (nm : Nms) (sl : Sls) : List Stmt → Prop
  | mk (fp : Pos) (ce : PySem.Expr) (p1 p2 : Pos) (h1 : nameOk (biName .dict) = true) (h3 : kdIs nm (biName .dict) .globalImplicit = true) (h4 : pairComp nm sl ce = true) (h5 : noStar [ce] = true) : IWorth nm sl [.Return (some (.Call (.Name (biName .dict) fp) [ce] [] p1)) p2]
theorem worthChk_inv {nm : Nms} {sl : Sls} {b : List Stmt} (h : worthChk nm sl b = true) : IWorth nm sl b := by
  replace h := any1_e h
  induction h with | mk s g =>
  replace g := any2_e g
  induction g with | mk r p2 g =>
  replace g := any3_e g
  induction g with | mk c as p1 g =>
  replace g := any2_e g
  induction g with | mk y fp g =>
  replace g := any1_e g
  induction g with | mk ce g =>
  obtain ⟨h1, h2, h3, h4, h5⟩ := and_t5 g
  cases seq_eq h2
  exact ⟨fp, ce, p1, p2, h1, h3, h4, h5⟩
section
variable {prog : Program} {w : World} {hB : Heap} {K : Frag} {G : Gls} {n : Nat}
theorem worth_at {i : Nat} (h : i < 64) : worthL[i]? = some (((signsL.getD i 0 : Nat) : Int), .int (i : Int)) := by
  simp -implicitDefEqProofs only [worthL, List.getElem?_map, List.getElem?_range h, Option.map_some]
theorem worth_len : worthL.length = 64 := by simp [worthL]
theorem worth_nd : (worthL.map (·.1)).Nodup := by decide +kernel
theorem signs_get {i : Nat} (h : i < 64) : signsL[i]? = some (signsL.getD i 0) := by
  rw [List.getD_eq_getElem?_getD]
  have : i < signsL.length := h
  rw [List.getElem?_eq_getElem this]; rfl
theorem range_signs (F : Fns) (σ : Slot) : ev F G true [.val (.sc (.bytes signsL)), σ] rangeE = some (.rng 0 64 1) := by
  have h1 : signsL.length = 64 := by decide
  have h2 : smallI ((64 : Nat) : Int) = true := by decide +kernel
  simp -implicitDefEqProofs only [ev_bi', evs_c, evs_n, ev_v0, Option.bind_some, Option.map_some, bi_len_b, h1, bi_r1, h2, if_true]
  rfl
/-- what stands at a place of the table -/
noncomputable def PairI (i : Nat) (its : Array Value) : Prop := ∃ t u, its = #[.int ((signsL.getD i 0 : Nat) : Int) t, .int (i : Int) u] ∧ i < 64
theorem pair_evs {F : Fns} {i : Nat} (hi : i < 64) : evs F G true [.val (.sc (.bytes signsL)), .val (.sc (.int (i : Int)))] pairEs = some [.sc (.int ((signsL.getD i 0 : Nat) : Int)), .sc (.int (i : Int))] := by
  have e1 := idx_bytes (l := signsL) (signs_get hi) (by decide) (rfl : (i : Int) = i)
  simp -implicitDefEqProofs only [evs_c, evs_n, ev_idx', ev_v0, ev_v1, Option.bind_some, Option.map_some, e1, fltI_t]
theorem two_ints {V : List Addr} {h : Heap} {vs : List Value} {i j : Int} (hp : Paired (Rep prog w V h) [.sc (.int i), .sc (.int j)] vs) : ∃ t u, vs = [.int i t, .int j u] := by
  obtain ⟨u0, r, rfl, r0, hp1⟩ := paired_cons hp
  obtain ⟨u1, r', rfl, r1, hp2⟩ := paired_cons hp1
  cases paired_nil hp2
  obtain ⟨t0, rfl⟩ := of_int r0
  obtain ⟨t1, rfl⟩ := of_int r1
  exact ⟨t0, t1, rfl⟩
theorem two_le {a b : Value} : (#[a, b] : Array Value).size ≤ sizeLine := by rw [sizeLine_eq]; exact Nat.le_of_ble_eq_true rfl
theorem worth_q {i : Nat} {q : Sc} (hq : ((List.range 64).map fun (i : Nat) => Sc.int (i : Int))[i]? = some q) : i < 64 ∧ q = .int (i : Int) := by
  have hi : i < 64 := by
    have := (List.getElem?_eq_some_iff.mp hq).1
    rw [List.length_map, List.length_range] at this; exact this
  rw [List.getElem?_map, List.getElem?_range hi] at hq
  exact ⟨hi, (Option.some.inj hq).symm⟩
noncomputable def DTab (s : Shared) (v : Value) (s' : Shared) : Prop := Keeps s s' ∧ ∃ D ys, v = .ref D ∧ s.heap.get? D = none ∧ s'.heap.PlainList D ys ∧ ys.size = 64 ∧
      ∀ (i : Nat) v, ys[i]? = some v → ∃ T t x k c, v = .ref T ∧ IsTup s'.heap T #[.int k t, x] ∧ worthL[i]? = some (k, c) ∧ Sc.of x = some c
theorem pairComp_ok {F : Fns} (T : Sys prog w hB K F G n) {A : Around} {s : Shared} {V W : List Addr} {env : Env} {nm : Nms} {ce : PySem.Expr} {E : Value → Shared → Prop} (hc : pairComp nm d_worth.sl ce = true)
    (X : Cx prog w hB nm d_worth.sl [.val (.sc (.bytes signsL)), .un] V W env s.heap) (R : Room n A) :
    wpAny (model prog w) A (eval ce env) (DTab s) E s := by
  replace hc := pairComp_inv hc
  induction hc with | mk es q1 q2 x px iter sc p3 c1 c2 c3 c5 c6 =>
  have hxs : items (.rng 0 64 1) = some ((List.range 64).map fun (i : Nat) => .int (i : Int)) := by rw [List.range_eq_range']; exact items_r0 (b := 64) (by decide)
  refine wpAny_mono (compT_ok (c := 1) (p := .rng 0 64 1) PairI X (compOk_of c1) c2 R.1 (by decide)
    (fun E => ev_ok T rangeE _ _ _ _ _ _ _ _ _ true _ E c3 (range_signs F _) X R) hxs (by rw [lim_val]; simp) fun i q env' s' E' hq C' => ?_) (fun v s' h => ?_) fun _ _ e => e
  · obtain ⟨hi, rfl⟩ := worth_q hq
    refine Tuple_ (wpAny_mono (evs_ok T pairEs _ _ _ _ _ _ _ _ _ true _ _ E' c5 c6 (pair_evs hi) C' R) (fun us s₁ h₁ => ?_) fun _ _ e => e)
    clear C' X R hxs c1 c2 c3 c5 c6 hq T
    obtain ⟨t0, t1, rfl⟩ := two_ints h₁.2
    exact wpAny_newObj_type ⟨⟨s₁.heap.objs.size, _, rfl, none_of_ext (Keeps.ext h₁.1) (fresh_none _), ⟨_, Heap.get?_push_size _ rfl, rfl, 0, rfl⟩, t0, t1, rfl, hi⟩, Keeps.trans h₁.1 (Keeps.mk' (t := s₁.toks) (ext_push _ _))⟩ two_le
  · clear X R hxs c1 c2 c3 c5 c6 T
    obtain ⟨k, D, ys, rfl, hD, hpl, hsz, hT⟩ := h
    refine ⟨k, D, ys, rfl, hD, hpl, by rw [hsz, List.length_map, List.length_range], fun i v hv => ?_⟩
    obtain ⟨T, its, rfl, _, ht, t, u, rfl, hi⟩ := hT i v hv
    exact ⟨T, t, _, _, _, rfl, ht, worth_at hi, rfl⟩
theorem worth_ok (B : Base hB K) (bi : BisOk K) (hd : nsIn K mainGlobals (biName .dict) = some none) (gl : GlsOk prog w hB K G) (hfn : fnWith K d_worth worthChk = true) (n : Nat) : FnOk prog w hB K (n + 1) 31 [.sc (.bytes signsL)] (.dctI worthL) := by
  have T : Sys prog w hB K (fun _ _ => none) G n := ⟨B, bi, fun f args r h => (by cases h), gl⟩
  intro A s V vs a R hx hV hn ha hp E
  replace hfn := fnWith_of hfn
  obtain ⟨f', o, fd, b, hf', ho, hdat, hb, hsh, hc0⟩ := hfn
  have hf' : nsIn K mainGlobals (fnm 31) = some (some (.ref f')) := hf'
  rw [ha] at hf'; cases hf'
  refine enter T hc0 hb ho hdat rfl rfl hp R hx hV hn fun env s₁ W E' X kp hfresh R' => ?_
  have X : Sx prog w hB fd.scope.names d_worth.sl [.val (.sc (.bytes signsL)), .un] V W env (fun _ => 0) s₁.heap := X
  replace hsh := worthChk_inv hsh
  induction hsh with | mk fp ce p1 p2 h1 h3 h4 h5 =>
  have C := X.cx
  refine wpAny_execs_cons (wpAny_Return_some (call_name (built_ok B C.base C.fn C.gl C.bl (C.kind _ _ (kdIs_eq h3) (by decide)) h1 hd (biBoot .dict) (biNot .dict) ?_)))
  refine callB_ok (first := []) (biVal_kind .dict) h5 ?_
  obtain ⟨e1, e2⟩ := starEach_cons (env := env) h5
  rw [e1]
  refine Calls.spliced_cons (wpAny_mono (pairComp_ok T h4 C R') (fun v s₂ h₂ => ?_) fun _ _ e => e)
  obtain ⟨k₂, D, ys, rfl, hD, hpl, hsz, hT⟩ := h₂
  refine Calls.spliced_nil ?_
  have kk := Keeps.trans kp k₂
  refine wpAny_mono (call_dict (V := V) (ps := worthL) R'.1 (hV.ext (Keeps.ext kk)) (let ⟨mg, g⟩ := B.g; ⟨mg, g.keeps (hx.trans (Keeps.ext kk))⟩) hpl (by rw [hsz, worth_len]) hT worth_nd (by rw [worth_len]; decide)) (fun v s₃ h₃ => ?_) fun _ _ e => e
  exact ⟨Keeps.trans kk h₃.1, h₃.2⟩
theorem sp_ok (B : Base hB K) (bi : BisOk K) (hd : nsIn K mainGlobals (biName .dict) = some none) (gl : GlsOk prog w hB K G) (hfn : fnWith K d_worth worthChk = true) (n f : Nat) (args : List PV) (r : PV) (h : spF f args = some r) :
    (∃ a o fd, nsIn K mainGlobals (fnm f) = some (some (.ref a)) ∧ K.lookup a = some o ∧ o.data = .func fd) ∧ FnOk prog w hB K (n + 1) f args r := by
  unfold spF at h
  split at h
  · rename_i hf
    subst hf
    split at h
    · split at h <;> cases h
      rename_i hl
      subst hl
      obtain ⟨f', o, fd, b, hf', ho, hdat, _⟩ := fnWith_of hfn
      exact ⟨⟨f', o, fd, hf', ho, hdat⟩, worth_ok B bi hd gl hfn n⟩
    · cases h
  · cases h
end
end Mine

end
section
open PySem PySem.W PyProof.Rows PySem.Calls
open PySem.SeqAt PySem.SeqRoads2
set_option Elab.async false
set_option autoImplicit false
set_option linter.unusedVariables false
namespace Mine
section
variable {prog : Program} {w : World} {hB : Heap} {K : Frag} {F : Fns} {G : Gls} {n fuel : Nat}
variable {nm : Nms} {U W : List Addr} {env : Env} {p : Addr} {cs : List Int} {k : Nat} {σ : Slot}

theorem PenS.addV {V : List Addr} {h : Heap} {I : Addr} (x : PenS V h p cs k) (hI : h.get? I = none) : PenS (I :: V) h p cs k := by
  obtain ⟨a, b, ⟨c, its, t, u, e0, hp, ⟨o, ho, r⟩, hc, hne, ⟨nn, hn⟩, q, q'⟩, z⟩ := x
  refine ⟨a, b, ⟨c, its, t, u, e0, fun m => ?_, ⟨o, ho, r⟩, fun m => ?_, hne, ⟨nn, hn⟩, q, q'⟩, z⟩
  · replace m := List.mem_cons.mp m
    rcases m with rfl | m
    · rw [hI] at ho; cases ho
    · exact hp m
  · replace m := List.mem_cons.mp m
    rcases m with rfl | m
    · rw [hI] at hn; cases hn
    · exact hc m
theorem Fs.more {h h' : Heap} {I : Addr} (X : Fs prog w hB nm U W env p cs k σ h) (hI : h.get? I = none) (e : Ext h h') (hI' : ∃ o, h'.get? I = some o) : Fs prog w hB nm (I :: U) W env p cs k σ h' :=
  ⟨X.X.moreO hI e hI', X.ow, X.l.ext e, (X.pen.addV hI).ext e, X.n⟩
theorem Fs.mvI {h h' : Heap} {I : Addr} (X : Fs prog w hB nm (I :: U) W env p cs k σ h) (hI : I ∉ W) (e : ∀ b o, b ≠ I → h.get? b = some o → h'.get? b = some o) (hI' : ∃ o, h'.get? I = some o) : Fs prog w hB nm (I :: U) W env p cs k σ h' :=
  ⟨X.X.frO (F2_own X.ow) List.mem_cons_self hI e hI', X.ow, X.l.mvX X.X fun b o hb => e b o fun q => hI (q ▸ hb), X.pen.mv fun c o hc => e c o fun q => hc (q ▸ List.mem_cons_self), X.n⟩
theorem Fs.letI {h h' : Heap} {I : Addr} (X : Fs prog w hB nm (I :: U) W env p cs k σ h) (hI : I ∉ W) (hU : I ∉ U) (e : ∀ b o, b ≠ I → h.get? b = some o → h'.get? b = some o) : Fs prog w hB nm U W env p cs k σ h' := by
  have hp : I ≠ p := fun q => X.pU (q ▸ List.mem_cons_self)
  refine ⟨X.X.dropO (F2_own X.ow) (fun m => ?_) e, X.ow, X.l.mvX X.X fun b o hb => e b o fun q => hI (q ▸ hb), (X.pen.mv fun c o hc => e c o fun q => hc (q ▸ List.mem_cons_self)).less fun a ha => List.mem_cons_of_mem _ ha, X.n⟩
  replace m := List.mem_append.mp m
  rcases m with m | m
  · replace m := List.mem_append.mp m
    rcases m with m | m
    · exact hU m
    · exact hp (List.mem_singleton.mp m)
  · exact hI m

noncomputable def rngX (nm : Nms) (m : Int) (x : PySem.Expr) : Bool := any3 (xCall x) fun c as _ => any2 (xName c) fun g _ => any1 (oneL as) fun de => nameOk g && (seq g (biName .range) && (kdIs nm g .globalImplicit && (drawX nm m de && noStar [de])))
noncomputable def forX (nm : Nms) (m : Int) (l1 l2 : List (List Nat)) (x : Stmt) : Bool := any4 (yFor x) fun t it b _ => any2 (xName t) fun n _ => any1 (oneL b) fun st => kdL nm n && (slIs sl_law 3 n && (notSet it && (rngX nm m it && wordsTo nm (catX nm l1 l2) st)))
inductive IRng (nm : Nms) (m : Int) : PySem.Expr → Prop
  | mk (px : Pos) (de : PySem.Expr) (pos : Pos) (h1 : nameOk (biName .range) = true) (h3 : kdIs nm (biName .range) .globalImplicit = true) (h4 : drawX nm m de = true) (h5 : noStar [de] = true) : IRng nm m (.Call (.Name (biName .range) px) [de] [] pos)
theorem rng_inv {nm : Nms} {m : Int} {x : PySem.Expr} (h : rngX nm m x = true) : IRng nm m x := by
  replace h := any3_e h
  induction h with | mk f as pos g =>
  replace g := any2_e g
  induction g with | mk n gp g =>
  replace g := any1_e g
  induction g with | mk de g =>
  obtain ⟨h1, h2, h3, h4, h5⟩ := and_t5 g
  cases seq_eq h2
  exact ⟨gp, de, pos, h1, h3, h4, h5⟩
theorem fs_range (T : Sys prog w hB K F G n) (hdr : fnChk K d_law_draw = true) {it : PySem.Expr} {m : Int} {A : Around} {s : Shared} {E : Value → Shared → Prop}
    (hx : rngX nm m it = true) (X : Fs prog w hB nm U W env p cs k σ s.heap) (R : Room (n + 1) A) (hk : k ≤ 900) (hm : 0 < m) (hm2 : m ≤ 100) :
    wpAny (model prog w) A (eval it env) (fun v s' => ∃ d : Nat, (d : Int) < m ∧ Rep prog w (U ++ [p] ++ W) s'.heap (.rng 0 (d : Int) 1) v ∧ Fs prog w hB nm U W env p cs (k + 1) σ s'.heap ∧ Fr (p :: W) s s') E s := by
  replace hx := rng_inv hx
  obtain ⟨gp, de, pos, h1, h3, h4, h5⟩ := hx
  have C := X.X.cx
  refine call_name (built_ok T.B C.base C.fn C.gl C.bl (C.kind _ _ (kdIs_eq h3) (by decide)) h1 (T.bi .range (by intro e; cases e)) (biBoot .range) (biNot .range) ?_)
  refine callB_ok (first := []) (biVal_kind .range) h5 ?_
  obtain ⟨e1, e2⟩ := starEach_cons (env := env) h5
  rw [e1]
  refine Calls.spliced_cons (wpAny_mono (fs_draw T hdr h4 X R hk hm hm2) (fun v s₂ h₂ => ?_) fun _ _ e => e)
  obtain ⟨d, hd, d0, d1, X₂, f₂⟩ := h₂
  refine Calls.spliced_nil ?_
  have hdn : d = ((d.toNat : Nat) : Int) := by omega
  have hs : smallI d = true := by
    unfold smallI
    rw [decide_eq_true_eq]
    omega
  have hb : biF .range [.sc (.int d)] = some (.rng 0 d 1) := by rw [bi_r1, if_pos hs]
  refine wpAny_mono (bi_ok (W := U ++ [p] ++ W) hb R.1 X₂.X.live (.cons hd .nil) E) (fun v s₃ h₃ => ?_) fun _ _ e => e
  exact ⟨d.toNat, by omega, hdn ▸ h₃.2, X₂.go (Keeps.ext h₃.1), f₂.tr (Fr.kp h₃.1)⟩
inductive IForX (nm : Nms) (m : Int) (l1 l2 : List (List Nat)) : Stmt → Prop
  | mk (x : Str) (px : Pos) (it : PySem.Expr) (st : Stmt) (pos : Pos) (h1 : kdL nm x = true) (h2 : slIs sl_law 3 x = true) (h3 : notSet it = true) (h4 : rngX nm m it = true) (h5 : wordsTo nm (catX nm l1 l2) st = true) : IForX nm m l1 l2 (.For (.Name x px) it [st] [] pos)
theorem forX_inv {nm : Nms} {m : Int} {l1 l2 : List (List Nat)} {x : Stmt} (h : forX nm m l1 l2 x = true) : IForX nm m l1 l2 x := by
  replace h := any4_e h
  induction h with | mk tx it b pos g =>
  replace g := any2_e g
  induction g with | mk xn xp g =>
  replace g := any1_e g
  induction g with | mk st g =>
  obtain ⟨c1, c2, c3, c4, c5⟩ := and_t5 g
  exact ⟨xn, xp, it, st, pos, c1, c2, c3, c4, c5⟩
theorem fs_body (T : Sys prog w hB K F G n) (hdr : fnChk K d_law_draw = true) (hpi : fnWith K d_law_pick pickChk = true) {l1 l2 : List (List Nat)} {m1 m2 M j : Nat} {st : Stmt} {A : Around} {s : Shared} {y : List Nat} {E : Value → Shared → Prop} (hx : wordsTo nm (catX nm l1 l2) st = true)
    (X : Fs prog w hB nm U W env p cs k (.val (.sc (.str y))) s.heap) (R : Room (n + 2) A) (hk : k ≤ 800) (hy : TxtOk (M + j * (m1 + m2)) y) (h1 : drawn l1 m1 = true) (h2 : drawn l2 m2 = true) (e1 : 0 < l1.length) (e2 : l1.length ≤ 100) (e3 : 0 < l2.length) (e4 : l2.length ≤ 100) (hm : M + j * (m1 + m2) + m1 + m2 ≤ 1000) :
    wpAny (model prog w) A (PySem.execs [st] env) (fun fl s' => fl = .next ∧ ∃ z, TxtOk (M + (j + 1) * (m1 + m2)) z ∧ Fs prog w hB nm U W env p cs (k + 2) (.val (.sc (.str z))) s'.heap ∧ Fr (p :: W) s s') E s := by
  refine wpAny_execs_cons (wpAny_mono (fs_assign (P := TxtOk (M + j * (m1 + m2) + m1 + m2)) (k' := k + 2) hx fun e he => wpAny_mono (fs_cat T hdr hpi he X R hk hy h1 h2 e1 e2 e3 e4 hm) (fun u s₅ h₅ => h₅) fun _ _ e => e) (fun fl s₅ h₅ => ?_) fun _ _ e => e)
  obtain ⟨rfl, z', hz', X₅, f₅⟩ := h₅
  exact wpAny_execs_nil ⟨rfl, z', by rw [Nat.succ_mul, ← Nat.add_assoc, ← Nat.add_assoc]; exact hz', X₅, f₅⟩
/-- the loop's state -/
inductive LapSt (prog : Program) (w : World) (hB : Heap) (nm : Nms) (U W : List Addr) (env : Env) (p : Addr) (cs : List Int) (k M q d : Nat) (I : Addr) (s₂ : Shared) (St : Nat → Heap → Prop) (kk : Nat) (s' : Shared) : Prop
  | mk (j : Nat) (z : List Nat) (hj : j ≤ d) (e : kk = d - j + 1) (hz : TxtOk (M + j * q) z) (X : Fs prog w hB nm (I :: U) W env p cs (k + 1 + 2 * j) (.val (.sc (.str z))) s'.heap) (f : Fr (I :: p :: W) s₂ s') (st : St j s'.heap)
theorem Fr.hop {I : Addr} {V : List Addr} {s s₁ s₃ s₅ : Shared} {h' : Heap} {tk : Nat} (f : Fr (I :: V) s s₁) (m : ∀ b o, b ≠ I → s₁.heap.get? b = some o → h'.get? b = some o) (e : s₃ = { s₁ with heap := h', toks := tk }) (g : Fr V s₃ s₅) : Fr (I :: V) s s₅ := by
  subst e
  obtain ⟨h₆, t₆, rfl, e₆⟩ := f
  obtain ⟨h₇, t₇, rfl, e₇⟩ := g
  exact ⟨h₇, t₇, rfl, fun b o hb e => e₇ b o (fun q => hb (List.mem_cons_of_mem _ q)) (m b o (fun q => hb (q ▸ List.mem_cons_self)) (e₆ b o hb e))⟩
theorem fs_for (T : Sys prog w hB K F G n) (hdr : fnChk K d_law_draw = true) (hpi : fnWith K d_law_pick pickChk = true) {l1 l2 : List (List Nat)} {m1 m2 M : Nat} {x : Stmt} {A : Around} {s : Shared} {y : List Nat} {E : Value → Shared → Prop} (hx : forX nm 7 l1 l2 x = true)
    (X : Fs prog w hB nm U W env p cs k (.val (.sc (.str y))) s.heap) (R : Room (n + 2) A) (hk : k ≤ 700) (hy : TxtOk M y) (h1 : drawn l1 m1 = true) (h2 : drawn l2 m2 = true) (e1 : 0 < l1.length) (e2 : l1.length ≤ 100) (e3 : 0 < l2.length) (e4 : l2.length ≤ 100) (hm1 : m1 ≤ 10) (hm2 : m2 ≤ 10) (hM : M ≤ 100) :
    wpAny (model prog w) A (PySem.exec x env) (fun fl s' => fl = .next ∧ ∃ z k', TxtOk (M + 6 * (m1 + m2)) z ∧ k' ≤ k + 13 ∧ Fs prog w hB nm U W env p cs k' (.val (.sc (.str z))) s'.heap ∧ Fr (p :: W) s s') E s := by
  replace hx := forX_inv hx
  obtain ⟨xn, xp, it, st, pos, c1, c2, c3, c4, c5⟩ := hx
  refine wpAny_For (wpAny_mono (fs_range T hdr c4 X R.less (by omega) (by decide) (by decide)) (fun v s₁ h₁ => ?_) fun _ _ e => e) (folded_ok c3)
  obtain ⟨d, hd, r₁, X₁, f₁⟩ := h₁
  have hxs := items_r0 (b := d) (by omega)
  refine wpAny_mono (iter_ok hxs r₁) (fun itv s₂ h₂ => ?_) fun _ _ e => e
  obtain ⟨k₂, I, fp, P, St, rfl, Wk, hst, hfp, hI, hIo, hfV, hP⟩ := h₂
  have hlen : ((List.range' 0 d).map fun (j : Nat) => Sc.int (j : Int)).length = d := by simp
  rw [hlen] at Wk
  have hIn : ∀ a, a ∈ U ++ [p] ++ W → a ≠ I := fun a ha e => by
    obtain ⟨o, ho⟩ := X₁.X.live a ha
    rw [e, hI] at ho; cases ho
  have hIW : I ∉ W := fun hm => hIn I (List.mem_append_right _ hm) rfl
  have hIU : I ∉ U := fun hm => hIn I (List.mem_append_left _ (List.mem_append_left _ hm)) rfl
  have hIp : I ≠ p := fun e => hIn p (List.mem_append_left _ (List.mem_append_right _ List.mem_cons_self)) e.symm
  have hIpW : I ∉ p :: W := fun hm => by
    replace hm := List.mem_cons.mp hm
    rcases hm with e | hm
    · exact hIp e
    · exact hIW hm
  have X₂ := X₁.more hI (Keeps.ext k₂) (hIo _ _ hst)
  have hfpv : ∀ b ∈ fp, b ∉ p :: W := fun b hb hm => by
    rcases hfV b hb with rfl | ⟨q, _⟩
    · exact hIpW hm
    · refine q ?_
      replace hm := List.mem_cons.mp hm
      rcases hm with rfl | hm
      · exact List.mem_append_left _ (List.mem_append_right _ List.mem_cons_self)
      · exact List.mem_append_right _ hm
  have back : ∀ {s'' : Shared}, Fr (I :: p :: W) s₂ s'' → Fr (p :: W) s s'' := fun {s''} f => by
    refine f₁.tr ?_
    obtain ⟨h₃, t₃, rfl, e₃⟩ := f
    obtain ⟨h₄, t₄, rfl, e₄⟩ := k₂
    exact ⟨h₃, t₃, rfl, fun b o hb e => e₃ b o (fun hm => by
      replace hm := List.mem_cons.mp hm
      rcases hm with rfl | hm
      · rw [hI] at e; cases e
      · exact hb hm) (e₄ b o e)⟩
  have hW := Wk A R.1
  clear Wk hIn hlen hIp hIpW
  refine codeAny_forLoop (fun kk s' => LapSt prog w hB nm U W env p cs k M (m1 + m2) d I s₂ St kk s') ?_ (d + 1)
    ⟨0, y, Nat.zero_le _, by simp, by simpa using hy, X₂, Fr.refl _ _, hst⟩
  clear hst X₂ X hy
  rintro kk s' ⟨j, z, hj, rfl, hz, X', f', st'⟩
  by_cases hlt : j < d
  · refine hW.item j s' _ _ hlt st' fun v h' tk hPv st₁ hk₁ => ?_
    have mv : ∀ b o, b ≠ I → s'.heap.get? b = some o → h'.get? b = some o := fun b o hb e => hk₁ b o (fun q => hb (List.mem_singleton.mp q)) e
    have X₃ : Fs prog w hB nm (I :: U) W env p cs (k + 1 + 2 * j) (.val (.sc (.str z))) ({ s' with heap := h', toks := tk } : Shared).heap := X'.mvI hIW mv (hIo _ _ st₁)
    clear X' hk₁
    obtain ⟨c, hc, hsc⟩ := hP j v hPv
    refine wpAny_assign_Name (wpAny_mono (fs_lap X₃ c1 c2 hsc) (fun _ s₄ h₄ => ?_) fun _ _ e => e)
    obtain ⟨X₄, f₄⟩ := h₄
    have hjm : j * (m1 + m2) ≤ 6 * 20 := Nat.mul_le_mul (by omega) (by omega)
    refine wpAny_mono (fs_body T hdr hpi c5 X₄ R (by omega) hz h1 h2 e1 e2 e3 e4 (by omega)) (fun fl s₅ h₅ => ?_) fun _ _ e => e
    obtain ⟨rfl, z', hz', X₅, f₅⟩ := h₅
    exact ⟨d - (j + 1) + 1, by omega, j + 1, z', hlt, rfl, hz', X₅, f'.hop mv rfl (f₄.tr f₅), hW.frame _ _ _ st₁ fun b hb o e => (f₄.tr f₅).at' b o (hfpv b hb) e⟩
  · have hje : j = d := by omega
    subst hje
    refine hW.done s' _ _ st' fun h' tk hk₁ => wpAny_execs_nil ?_
    have mv : ∀ b o, b ≠ I → s'.heap.get? b = some o → h'.get? b = some o := fun b o hb e => hk₁ b o (fun q => hb (List.mem_singleton.mp q)) e
    refine ⟨rfl, z, k + 1 + 2 * j, ⟨hz.1, ?_⟩, by omega, X'.letI hIW hIU mv, back (f'.hop mv rfl (Fr.refl _ _))⟩
    have : j * (m1 + m2) ≤ 6 * (m1 + m2) := Nat.mul_le_mul_right _ (by omega)
    have := hz.2
    omega
end
end Mine

end
section
open PySem PySem.W PyProof.Rows PySem.Calls
open PySem.SeqAt PySem.SeqRoads2
set_option Elab.async false
set_option autoImplicit false
set_option linter.unusedVariables false
namespace Mine
noncomputable def ls0 : List (List Nat) := [[], [], [32]]
noncomputable def ls1 : List (List Nat) := [[97, 98], [99, 45, 100, 46], [233, 116], [120, 61, 63, 121], [116, 9, 117], [61], [63, 61], [8364]]
noncomputable def ls2 : List (List Nat) := [[32], [32, 32], [32]]
noncomputable def penX (nm : Nms) (x : PySem.Expr) : Bool := any3 (xCall x) fun c as _ => any2 (xName c) fun g _ => any1 (oneL as) fun a => gName nm g 52 && (isEs nm sl_law (.cons (.var 0) .nil) [a] && noStar [a])
noncomputable def penTo (nm : Nms) (x : Stmt) : Bool := asTo nm 1 (penX nm) x
inductive IPen (nm : Nms) : PySem.Expr → Prop
  | mk (gp : Pos) (a : PySem.Expr) (pos : Pos) (h1 : nameOk (fnm 52) = true) (h2 : nm.lookup (fnm 52) = some .globalImplicit) (h3 : isEs nm sl_law (.cons (.var 0) .nil) [a] = true) (h4 : noStar [a] = true) : IPen nm (.Call (.Name (fnm 52) gp) [a] [] pos)
theorem penX_inv {nm : Nms} {x : PySem.Expr} (h : penX nm x = true) : IPen nm x := by
  replace h := any3_e h
  induction h with | mk f as pos g =>
  replace g := any2_e g
  induction g with | mk n gp g =>
  replace g := any1_e g
  induction g with | mk a g =>
  obtain ⟨h2, h3, h4⟩ := and_t3 g
  obtain ⟨g1, rfl, g3⟩ := gName_inv h2
  exact ⟨gp, a, pos, g1, g3, h3, h4⟩
noncomputable def lawChk (nm : Nms) (sl : Sls) (b : List Stmt) : Bool := (b[0]?).any (penTo nm) && ((b[1]?).any (wordsTo nm (pickX nm ls0)) && ((b[2]?).any (forX nm 7 ls1 ls2) && ((b[3]?).any (ifX nm) && isSs nm sl_law b_law (b.drop 4))))
theorem lawChk_inv {nm : Nms} {sl : Sls} {b : List Stmt} (h : lawChk nm sl b = true) : ∃ s1 s2 s3 s4 r, b = s1 :: s2 :: s3 :: s4 :: r ∧ penTo nm s1 = true ∧ wordsTo nm (pickX nm ls0) s2 = true ∧ forX nm 7 ls1 ls2 s3 = true ∧ ifX nm s4 = true ∧ isSs nm sl_law b_law r = true := by
  replace h := and_t5 h
  obtain ⟨h1, h2, h3, h4, h5⟩ := h
  match b, h1, h2, h3, h4, h5 with
  | s1 :: s2 :: s3 :: s4 :: r, h1, h2, h3, h4, h5 => exact ⟨s1, s2, s3, s4, r, rfl, h1, h2, h3, h4, h5⟩
  | [], h1, _, _, _, _ => exact ft h1
  | [_], _, h2, _, _, _ => exact ft h2
  | [_, _], _, _, h3, _, _ => exact ft h3
  | [_, _, _], _, _, _, h4, _ => exact ft h4
section
variable {prog : Program} {w : World} {hB : Heap} {K : Frag} {F : Fns} {G : Gls} {n fuel : Nat}
variable {nm : Nms} {U W : List Addr} {env : Env} {p : Addr} {cs : List Int} {k : Nat} {σ : Slot}

theorem pen_to (T : Sys prog w hB K F Gl n) (hpe : fnWith K d_law_pen penChk = true) {ns : List Int} {x : Stmt} {A : Around} {s : Shared} {E : Value → Shared → Prop} (hx : penTo nm x = true)
    (X : Sx prog w hB nm sl_law [.val (.lst (ns.map Sc.int)), .un, .un, .un, .un, .un, .un, .un, .un, .un, .un, .un, .un, .un] [] W env (fun _ => 0) s.heap) (R : Room (n + 1) A) (hl : ns.length ≤ 1000) :
    wpAny (model prog w) A (PySem.exec x env) (fun fl s' => fl = .next ∧ ∃ p, s.heap.get? p = none ∧ Fs prog w hB nm [] W env p (ns.take 40) 0 .un s'.heap ∧ Fr W s s') E s := by
  replace hx := asTo_inv hx
  obtain ⟨xn, px, v, pos, c1, c2, c3, c4, c5⟩ := hx
  replace c5 := penX_inv c5
  obtain ⟨gp, se, cpos, g1, g3, h3, h4⟩ := c5
  obtain ⟨f, o, fd, b, hf, ho, hd, _⟩ := fnWith_of hpe
  have hf : nsIn K mainGlobals (fnm 52) = some (some (.ref f)) := hf
  have C := X.cx
  refine wpAny_Assign_Name (call_name (glob_ok T.B C.base C.fn C.gl (C.kind _ _ g3 (by decide)) g1 hf ?_)) (swaps_false c3 c4)
  refine callW_ok (f := .none) (first := []) h4 ((evs_ok T (.cons (.var 0) .nil)).step (tmp := false) (ps := [.lst (ns.map Sc.int)]) h3 h4 rfl C R.less fun us s₃ k₃ r₃ C₃ => ⟨⟨C.base.trans (Keeps.ext k₃) _ _ (T.B.kin _ _ ho), hd⟩, ?_⟩)
  replace r₃ := paired_one r₃
  obtain ⟨u0, rfl, r0⟩ := r₃
  refine wpAny_mono (pen_ok T hpe hf R C₃.base C₃.live C₃.new r0 hl) (fun v s₄ h₄ => ?_) fun _ _ e => e
  obtain ⟨k₄, p, rfl, hp, pen⟩ := h₄
  have kk := Keeps.trans k₃ k₄
  have X₄ := X.ext (Keeps.ext kk)
  have hpn := none_of_ext (Keeps.ext k₃) hp
  obtain ⟨a, b0, pa, ha, hb0⟩ := id pen
  refine store_ok X₄ c1 fun t h' tk B => ⟨rfl, p, hpn, ⟨?_, (fun _ e => by cases e), ?_, ?_, ?_⟩, (Fr.kp kk).tr (B.fr X₄)⟩
  · refine Sx.addO (q := p) (Wo := []) ((X₄.bindV (slIs_eq c2) B (p := .pen p (ns.take 40) (a : Int) b0) pa).forget (ρ' := F2 .un) (by simp) fun j σ hj => .inl ?_) (fun j σ hj => ?_) ?_ (none_of_ext X.base hpn)
    · have := List.mem_of_getElem? hj
      simpa using this
    · have := List.mem_of_getElem? hj
      simpa using this
    · obtain ⟨o, ho⟩ := pen.alive
      exact ⟨o, B.mv p o (fun q => pen.notin (List.mem_append_right _ (q ▸ B.tW X₄))) ho⟩
  · have : xn = penN := (Option.some.inj (Option.some.inj (slIs_eq c2))).symm
    subst this
    exact B.now
  · exact pen.mv fun c o hc => B.mv c o fun q => hc (List.mem_append_right _ (q ▸ B.tW X₄))
  · rw [List.length_take]; omega
theorem ls0_ok : drawn ls0 1 = true := by decide +kernel
theorem ls1_ok : drawn ls1 4 = true := by decide +kernel
theorem ls2_ok : drawn ls2 2 = true := by decide +kernel
/-- the law's body -/
theorem law_body (T : Sys prog w hB K (FF 9) Gl 9) (hdr : fnChk K d_law_draw = true) (hpi : fnWith K d_law_pick pickChk = true) (hpe : fnWith K d_law_pen penChk = true) {ns : List Int} {b : List Stmt} {A : Around} {s : Shared} {E : Value → Shared → Prop} (hx : lawChk nm sl_law b = true)
    (X : Sx prog w hB nm sl_law [.val (.lst (ns.map Sc.int)), .un, .un, .un, .un, .un, .un, .un, .un, .un, .un, .un, .un, .un] [] W env (fun _ => 0) s.heap) (R : Room 11 A) (hl : ns.length ≤ 1000) :
    wpAny (model prog w) A (PySem.execs b env) (fun fl s' => fl = .ret (.bool true) ∧ ∃ p, s.heap.get? p = none ∧ Fr (p :: W) s s') E s := by
  obtain ⟨s1, s2, s3, s4, rest, rfl, c1, c2, c3, c4, c5⟩ := lawChk_inv hx
  clear hx
  refine wpAny_execs_cons (wpAny_mono (pen_to T hpe c1 X R.less hl) (fun fl s₁ h₁ => ?_) fun _ _ e => e)
  obtain ⟨rfl, p, hp, X₁, f₁⟩ := h₁
  refine wpAny_execs_cons (wpAny_mono (fs_assign (hB := hB) (U := []) (W := W) (p := p) (cs := ns.take 40) (σ := .un) (P := TxtOk 1) (k' := 1) c2 fun v hv => wpAny_mono (fs_pick T hdr hpi hv X₁ R (by omega) (by decide) (by decide)) (fun u s' h => ?_) fun _ _ e => e) (fun fl s₂ h₂ => ?_) fun _ _ e => e)
  · obtain ⟨y, hy, hu, X', f'⟩ := h
    exact ⟨y, drawn_ok ls0_ok hy, hu, X', f'⟩
  obtain ⟨rfl, y, hy, X₂, f₂⟩ := h₂
  refine wpAny_execs_cons (wpAny_mono (fs_for T hdr hpi c3 X₂ R (by omega) hy ls1_ok ls2_ok (by decide) (by decide) (by decide) (by decide) (by decide) (by decide) (by decide)) (fun fl s₃ h₃ => ?_) fun _ _ e => e)
  obtain ⟨rfl, z, k', hz, hk', X₃, f₃⟩ := h₃
  refine wpAny_execs_cons (wpAny_mono (fs_if T hdr c4 X₃ R.less (by omega) hz) (fun fl s₄ h₄ => ?_) fun _ _ e => e)
  obtain ⟨rfl, z', hz', X₄, f₄⟩ := h₄
  obtain ⟨ρ', hex⟩ := law_ok 0 hz'.1 (Nat.le_trans hz'.2 (by decide))
  refine wpAny_mono (bk_ok T b_law _ _ _ _ _ _ _ _ _ _ _ _ _ c5 hex X₄.X R.less.less) (fun fl s₅ h₅ => ?_) fun _ _ e => e
  obtain ⟨W', oa', g, f₅, X₅, hout⟩ := h₅
  cases hout with
  | ret _ v hr =>
    have : v = .bool true := of_bool hr
    subst this
    exact ⟨rfl, p, hp, f₁.upW.tr (f₂.tr (f₃.tr (f₄.tr f₅.upW)))⟩
theorem law_call (T : Sys prog w hB K (FF 9) Gl 9) (hdr : fnChk K d_law_draw = true) (hpi : fnWith K d_law_pick pickChk = true) (hpe : fnWith K d_law_pen penChk = true) (hla : fnWith K d_law lawChk = true) {A : Around} {s : Shared} {f : Addr} {v1 : Value} {ns : List Int} {E : Value → Shared → Prop}
    (hf : nsIn K mainGlobals (fnm 55) = some (some (.ref f))) (R : Room 12 A) (hx : Ext hB s.heap) (hr : Rep prog w [] s.heap (.lst (ns.map Sc.int)) v1) (hl : ns.length ≤ 1000) :
    wpAny (model prog w) A (call (.ref f) [v1]) (fun v s' => v = .bool true ∧ Keeps s s') E s := by
  replace hla := fnWith_of hla
  obtain ⟨f', o, fd, b, hf', ho, hd, hb, hsh, hc0⟩ := hla
  have hf' : nsIn K mainGlobals (fnm 55) = some (some (.ref f')) := hf'
  rw [hf] at hf'; cases hf'
  have pr : Paired (Rep prog w [] s.heap) [.lst (ns.map Sc.int)] [v1] := .cons hr .nil
  refine enter (m := 11) T hc0 hb ho hd rfl rfl pr R hx (fun _ h => nomatch h) (fun _ h => nomatch h) fun env s₁ W E' X kp hfresh R' => ?_
  refine wpAny_mono (law_body T hdr hpi hpe hsh X R' hl) (fun fl s' h => ?_) fun _ _ e => e
  obtain ⟨rfl, p, hp, f'⟩ := h
  refine ⟨rfl, ?_⟩
  obtain ⟨h₁, t₁, rfl, e₁⟩ := kp
  obtain ⟨h₂, t₂, rfl, e₂⟩ := f'
  refine ⟨h₂, t₂, rfl, fun c o e => e₂ c o (fun hm => ?_) (e₁ c o e)⟩
  replace hm := List.mem_cons.mp hm
  rcases hm with rfl | hm
  · rw [e₁ _ _ e] at hp; cases hp
  · rw [hfresh c hm] at e; cases e
end
end Mine

end
section
open PySem PySem.W PyProof.Rows PySem.Calls
open PySem.SeqAt PySem.SeqRoads2
set_option Elab.async false
set_option autoImplicit false
set_option linter.unusedVariables false
set_option maxRecDepth 100000
namespace Mine
/-- the objects at some addresses -/
noncomputable def fragGo (h : Heap) : List Addr → Frag
  | [] => []
  | a :: r => match h.get? a with
    | some o => (a, o) :: fragGo h r
    | none => fragGo h r
theorem frag_in (h : Heap) : ∀ as : List Addr, (fragGo h as).In h
  | [] => fun _ _ e => by cases e
  | a :: r => fun b o e => by
    unfold fragGo at e
    split at e
    · rename_i o' ho
      rw [List.lookup_cons] at e
      split at e
      · rename_i q; cases e; rw [eq_of_beq q]; exact ho
      · exact frag_in h r b o e
    · exact frag_in h r b o e
noncomputable def scIs (v : Value) : Sc → Bool
  | .int j => any2 (vI v) fun i _ => i == j
  | .str l => any2 (vS v) fun s _ => natsEq s.cps.toList l && Nat.ble l.length 1000
  | .bytes l => any2 (vB v) fun b _ => natsEq (b.toList.map UInt8.toNat) l && Nat.ble l.length 1000
  | .none => false
  | .bool _ => false
theorem scIs_ok {v : Value} {c : Sc} (h : scIs v c = true) : Sc.of v = some c := by
  induction c with
  | none => exact ft h
  | bool _ => exact ft h
  | int j =>
    replace h := any2_e h
    induction h with | mk i k h => rw [eq_of_beq h]; rfl
  | str l =>
    replace h := any2_e h
    induction h with | mk i k h =>
    obtain ⟨e, h⟩ := and_t h
    cases natsEq_eq e
    exact of_str_mk' _ (Array.length_toList ▸ len_lim h)
  | bytes l =>
    replace h := any2_e h
    induction h with | mk i k h =>
    obtain ⟨e, h⟩ := and_t h
    cases natsEq_eq e
    have := len_lim h
    rw [List.length_map, Array.length_toList] at this
    exact of_bytes_mk _ this
noncomputable def scsAre : List Value → List Sc → Bool
  | [], [] => true
  | v :: r, c :: q => scIs v c && scsAre r q
  | _, _ => false
theorem scsAre_ok {vs : List Value} : ∀ {cs : List Sc}, scsAre vs cs = true → vs.map Sc.of = cs.map some := by
  induction vs with
  | nil =>
    intro cs h
    rcases cs with _ | ⟨_, _⟩
    ·
      rfl
    ·
      exact ft h
  | cons v r ih =>
    intro cs h
    rcases cs with _ | ⟨c, q⟩
    ·
      exact ft h
    ·
      rw [List.map_cons, List.map_cons, scIs_ok (and_t h).1, ih (and_t h).2]
noncomputable def glIs (K : Frag) (p : PV) (v : Value) : Bool := match p with
  | .sc c => scIs v c
  | .tup l => any1 (vR v) fun a => (K.lookup a).any fun o => any1 (vT o.cls) fun c => any2 (dSeq o.data) fun d _ => c == "tuple" && scsAre d.toList l
  | _ => false
noncomputable def glChk (K : Frag) (g : Nat) : Bool := (Gl g).any fun p => ((nsIn K mainGlobals (glm g)).bind id).any fun v => glIs K p v
noncomputable def biChk (K : Frag) (b : Bi) : Bool := (nsIn K mainGlobals (biName b)).any (·.isNone)
theorem bid_some {α : Type} {o : Option (Option α)} {v : α} (h : o.bind id = some v) : o = some (some v) := by
  induction o with
  | none => cases h
  | some x => exact congrArg some h
noncomputable def bis : List Bi := [.len, .ord, .chr, .bytes, .range, .max, .min, .dict, .int, .sum, .abs]
noncomputable def headChk (K : Frag) : Bool := tbl.all (fnChk K) && fnChk K d_law_draw && fnWith K d_law_pick pickChk && fnWith K d_law_pen penChk && fnWith K d_worth worthChk && fnWith K d_law lawChk && (List.range 18).all (glChk K) && bis.all (biChk K)
section
variable {prog : Program} {w : World} {hB : Heap} {K : Frag}
theorem bi_of (h : bis.all (biChk K) = true) (b : Bi) : nsIn K mainGlobals (biName b) = some none := by
  have e : bis[b.ctorIdx]? = some b := by cases b <;> rfl
  replace h := any_some (List.all_eq_true.mp h b (List.mem_of_getElem? e))
  obtain ⟨x, hx, h⟩ := h
  rw [hx, isNone_t h]
theorem gl_lt {g : Nat} {p : PV} (h : Gl g = some p) : g < 18 := by
  refine Nat.lt_of_not_le fun hn => ?_
  have e : ∀ k, Gl (k + 18) = none := fun _ => rfl
  rw [← Nat.sub_add_cancel hn, e] at h
  cases h
theorem glIs_ok {p : PV} {v : Value} {V : List Addr} {h' : Heap} (hk : K.In hB) (h : glIs K p v = true) (hx : Ext hB h') (hV : ∀ a ∈ V, hB.get? a = none) : Rep prog w V h' p v := by
  rcases p with c | l | _ <;> first | exact ft h | skip
  · exact scIs_ok h
  · replace h := any1_e h
    induction h with | mk a h =>
    obtain ⟨o, ho, h⟩ := any_some h
    generalize e1 : o.cls = oc at h
    replace h := any1_e h
    induction h with | mk c h =>
    generalize e2 : o.data = od at h
    replace h := any2_e h
    induction h with | mk d n h =>
    obtain ⟨h1, h2⟩ := and_t h
    cases eq_of_beq h1
    have hin := hk _ _ ho
    exact ⟨a, d, rfl, (fun hm => by rw [hV a hm] at hin; cases hin), ⟨_, hx _ _ hin, e1, _, e2⟩, scsAre_ok h2⟩
theorem gl_of (hk : K.In hB) (h : (List.range 18).all (glChk K) = true) : GlsOk prog w hB K Gl := by
  intro g p hg
  replace h := any_some (List.all_eq_true.mp h g (List.mem_range.mpr (gl_lt hg)))
  obtain ⟨p', hp, h⟩ := h
  rw [hg] at hp; cases hp
  replace h := any_some h
  obtain ⟨v, hv, h⟩ := h
  exact ⟨v, bid_some hv, fun V h' hx hV => glIs_ok hk h hx hV⟩
end
end Mine

end
section
open PySem PySem.W PyProof.Rows PySem.Calls
set_option Elab.async false
set_option autoImplicit false
set_option linter.unusedVariables false
set_option maxRecDepth 100000
namespace Mine
abbrev pw : Program := PySem.Challenge.pw_or0066_01
noncomputable def needA : List Addr := [3, 285, 284, 290, 289, 149, 148, 156, 155, 144, 143, 205, 204, 212, 211, 217, 216, 224, 223, 252, 251, 31, 30, 43, 42, 50, 49, 55, 54, 63, 62, 56, 266, 265, 271, 270, 278, 277, 295, 294, 302, 301, 309, 308, 324, 323, 317, 316, 310, 117, 116, 122, 121, 130, 129, 137, 136, 231, 230, 238, 237, 245, 244, 257, 256, 26, 25, 36, 35, 70, 69, 163, 162, 170, 169, 177, 176, 184, 183, 191, 190, 198, 197, 331, 330, 338, 337, 343, 342, 350, 349, 355, 354, 362, 361, 369, 368, 374, 373, 381, 380, 407, 406, 414, 413, 421, 420, 386, 385, 393, 392, 400, 399, 426, 425, 123, 258, 259]
noncomputable def obs (s : Shared) : Bool := headChk (fragGo s.heap needA)
noncomputable def qv : Program := view pw [83]
noncomputable def loose : List Str := (fnL.dropLast ++ glL ++ ["_wall", "PostError", "MimeFault"]).map Str.ofString
theorem left_of {p q : Program} {loose : List Str} {Xt : Shared → Bool} {α : Type} {Yf : Shared → α} {Ya : World → α} {N : Nat} {g0 : Bool} (e : opening p = plainProg p.main.scope.names) (hN : Nat.ble 600 N = true) (f : ∀ s, fenceModules? p s = some s)
    (h : ∀ w : World, (fun os => (topFrom treeTable p w N ⟨boot_heap w.params, Array.mk [], boot_drawn, boot_toks, os⟩).map fun s => (openSeen q loose (importedModules p.main.body) Xt g0 s, Yf s)) = fun _ => some (openGood q loose, Ya w)) : LeftO p q loose Xt Yf Ya N g0 := fun w => by
  obtain ⟨⟨h0, gs, d, k, os⟩, e0, e1⟩ := Option.map_eq_some_iff.mp (boot_open e hN f w)
  obtain ⟨rfl, rfl, rfl, rfl⟩ : h0 = boot_heap w.params ∧ gs = Array.mk [] ∧ d = boot_drawn ∧ k = boot_toks := by simpa using e1
  unfold openEnds
  rw [e0]
  exact congrFun (h w) os
theorem open_pw : opening pw = plainProg pw.main.scope.names := by kernel_rfl
theorem fence_pw (s : Shared) : fenceModules? pw s = some s := by kernel_rfl
theorem seen_pw (w : World) : (fun os : OsState => (topFrom treeTable pw w 5004 ⟨boot_heap w.params, Array.mk [], boot_drawn, boot_toks, os⟩).map fun s => (openSeen qv loose (importedModules pw.main.body) (fun _ => true) true s, obs s)) = fun _ => some (openGood qv loose, true) := by
  unfold topFrom
  try rw [Fast.te14082659384304107361]
  try rw [Fast.te14364793385576792824]
  try rw [Fast.te4187177175401517315]
  kernel_rfl
theorem left_pw : LeftO pw qv loose (fun _ => true) obs (fun _ => true) 5004 := left_of open_pw rfl fence_pw seen_pw
end Mine

end
section
open PySem PySem.W PyProof.Rows PySem.Calls
open PySem.SeqAt PySem.SeqRoads2
set_option Elab.async false
set_option autoImplicit false
set_option linter.unusedVariables false
set_option maxRecDepth 100000
namespace Mine
abbrev rw0 : OpenLaw := PySem.Challenge.rw_or0066_01
abbrev rr : OpenRow := rw0.row
noncomputable def YP (_ : World) (h : Heap) : Prop := ∃ h0, Ext h0 h ∧ headChk (fragGo h0 needA) = true
theorem def_pw : ∃ d kwd, defOf qv rr.name = some (d, kwd) ∧ rr.prog.theDef rr.name = some (d.params, d.body, d.scope) ∧ kwWritten? d.params.kwonlyargs d.params.kw_defaults = some kwd ∧ d.name = fnm 55 := ⟨_, _, rfl, rfl, rfl, rfl⟩
theorem promised_pw : rr.toRowW.promised := by w_witness2
theorem bare_pw : rr.prog.bare := ⟨rfl, rfl, rfl, rfl, rfl, by decide +kernel⟩
theorem oks_pw : (chainsOk qv && opensWell rr.prog && (frees rr.toRowW && rr.within.isEmpty)) = true := by kernel_rfl
theorem ints_are {vs : List Value} {ns : List Int} (h : IntsAre vs ns) : vs.map Sc.of = (ns.map Sc.int).map some := by
  induction h with
  | nil => rfl
  | cons n t _ ih => rw [List.map_cons, ih]; rfl
theorem law_run {w : World} {s₀ s₁ : Shared} {mg mb : Str → Option Value} {fa a : Addr} {vs : List Value} {ns : List Int} {E : Value → Shared → Prop} (G : Ground qv loose rr.records (fun _ _ => True) w s₀ mg mb s₁.heap) (Y : YP w s₁.heap) (hmg : mg (fnm 55) = some (.ref fa))
    (hl : s₁.heap.PlainList a vs.toArray) (hi : IntsAre vs ns) (hn : ns.length ≤ 63) :
    wpAny (model pw w) callerA (call (.ref fa) [.ref a]) (fun v s' => v = .bool true ∧ Keeps s₁ s') E s₁ := by
  obtain ⟨h0, hx, hc⟩ := Y
  unfold headChk at hc
  simp only [Bool.and_eq_true] at hc
  obtain ⟨⟨⟨⟨⟨⟨⟨c1, c2⟩, c3⟩, c4⟩, c5⟩, c6⟩, c7⟩, c8⟩ := hc
  have hk : (fragGo h0 needA).In s₁.heap := fun b o e => hx _ _ (frag_in h0 needA b o e)
  generalize fragGo h0 needA = K at *
  have B : Base s₁.heap K := ⟨hk, ⟨mg, G.T.g⟩, ⟨mb, G.T.b, G.T.builtins⟩, G.T.nolimit⟩
  have bi : BisOk K := fun b _ => bi_of c8 b
  have gl : GlsOk pw w s₁.heap K Gl := gl_of hk c7
  have T : Sys pw w s₁.heap K (FF 9) Gl 9 := ⟨B, bi, fns_ok B bi gl c1 (sp_ok B bi (bi_of c8 .dict) gl c5) 9, gl⟩
  obtain ⟨f, o, fd, b, hf, _⟩ := fnWith_of c6
  have hf : nsIn K mainGlobals (fnm 55) = some (some (.ref f)) := hf
  have := mg_of hk G.T.g hf
  rw [hmg] at this
  cases this
  refine law_call (ns := ns) T c2 c3 c4 c6 hf ?_ (Ext.refl _) ⟨a, vs.toArray, rfl, List.not_mem_nil, hl, ?_, ?_⟩ (by omega)
  · exact ⟨rfl, by decide +kernel, by decide +kernel⟩
  · exact ints_are hi
  · rw [List.length_map, lim_val]; omega
theorem law_holds (said : rr.wellSaid = true) : rr.Holds := by
  obtain ⟨d, kwd, h1, h2, h3, h4⟩ := def_pw
  refine holds_open (YP := YP) (XP := fun _ _ => True) (q := qv) (d := d) (kwd := kwd) left_pw (fun w s e => ⟨s.heap, Ext.refl _, e⟩) (fun w h h' y k => let ⟨h0, x, c⟩ := y; ⟨h0, x.trans k, c⟩) (fun _ _ => trivial) (fun _ _ _ _ _ => trivial) h1 h2 h3
    (fun s _ => recFacts_of (by rfl)) (by rfl) said oks_pw bare_pw promised_pw ?_
  intro w s₀ s₁ mg mb G Y fa o pm cd doc dV kV ho hd hcd hD hmg hg args vals as hpre hlay hrd hwl hlo
  wrow_args hpre hlay hrd hwl hlo
  rename_i ns _ _ _ _ _ _ _ a vs _ hL _ hW _ hI _ hn _
  obtain ⟨vs', hget⟩ : ∃ vs' : List Value, s₁.heap.get? a = some { cls := .type "list", data := .seq vs'.toArray } := by
    cases hW with
    | list h _ => exact ⟨_, h⟩
  have hpl : s₁.heap.PlainList a vs.toArray := by
    obtain ⟨o', ho', _, n', hd'⟩ := hL
    rw [hget] at ho'; cases ho'
    cases hd'
    exact ⟨_, hget⟩
  rw [h4] at hmg
  refine wpAny_mono (law_run G Y hmg hpl hI (by omega)) (fun v s' h => ?_) fun _ _ e => e
  obtain ⟨rfl, k⟩ := h
  obtain ⟨h', t', rfl, e⟩ := k
  exact GoodW.toG ⟨.inl ⟨.bool true, .bool true, [], rfl, raisesW_false (fun _ h => by cases h), .bool true, by wrow_post, unshared_nil⟩, e, rfl, hg⟩
theorem said_pw : rw0.wellSaid = true := by
  first
  | rw [Fast.te9446332074065402090]
    unfold Fast.tw9446332074065402090
    iterate 18 refine look_both ?_ (by decide +kernel)
    unfold Fast.tw17960256430627541270
    iterate 2 refine look_both ?_ (by decide +kernel)
    unfold Fast.tw2436336058641802641
    iterate 12 refine look_both ?_ (by decide +kernel)
    unfold Fast.tw12908688711261696721
    iterate 5 refine look_both ?_ (by decide +kernel)
    decide +kernel
  | kernel_rfl
end Mine
theorem PySem.Challenge.cw_or0066_01_holds : PySem.Challenge.rw_or0066_01.Holds :=
  holds_law Mine.said_pw Mine.law_holds

end
