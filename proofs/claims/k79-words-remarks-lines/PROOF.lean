import PyProof.Rows.All
import Wide.All
import OpenK.AllK
import Wide.FinOn
import HandS.ForMost
import HandS.ReplaceList
import HandS.IsInst
import HandS.StrMore
import HandS.Walk
import HandS.Flow
import HandS.Style
import HandS.ExcOwn
import HandS.Exc
import HandS.TryMany
import HandS.TryOnly
import HandS.ExcInit
import HandS.ExcField
import HandS.ExcIs
import HandS.Replace
import HandS.ReplaceLit
import HandS.Deep
import HandS.Defaults
import HandS.Ends
import HandS.Head0
import HandS.Head1
import HandS.Head2
import HandS.HeadEnd
import HandS.HeadHook1
import HandS.HeadHook2
import KE.KStateDown
import HandS.TupAny
import PySem.Challenge.RW_bothways_k79_words_remarks_lines
import HandS.Text
set_option Elab.async false
set_option linter.all false
set_option maxRecDepth 100000
/-! Bw1: a small language of values: what a def of the package comes to, as a plain function. -/
namespace Bw
open PySem

/-! ### values -/
inductive D where
  | non | bl (b : Bool) | int (i : Int) | str (s : List Nat) | tup (ds : List D) | lst (ds : List D) | scr (ns : List Int) | fn (x : Str) | ty (n : String)
  deriving Inhabited

/-- the greatest length of a list, a text -/
abbrev LIM : Nat := 16777216

mutual
/-- a value as data -/
def D.py : D → PyData
  | .non => .none
  | .bl b => .bool b
  | .int i => .int i
  | .str s => .str ⟨s.toArray⟩
  | .tup ds => .tuple (D.pys ds)
  | .lst ds => .list (D.pys ds)
  | .scr _ => .none
  | .fn _ => .none
  | .ty _ => .none
def D.pys : List D → List PyData
  | [] => []
  | d :: ds => d.py :: D.pys ds
end
mutual
/-- nested at most so deep, no def in it -/
def D.flat : Nat → D → Bool
  | _, .non => true
  | _, .bl _ => true
  | _, .int _ => true
  | _, .str _ => true
  | n + 1, .tup ds => D.flats n ds
  | n + 1, .lst ds => D.flats n ds
  | _, _ => false
def D.flats : Nat → List D → Bool
  | _, [] => true
  | n, d :: ds => d.flat n && D.flats n ds
end
mutual
/-- Python's == -/
def D.eqv : D → D → Bool
  | .non, .non => true
  | .bl a, .bl b => a == b
  | .bl a, .int j => (if a then 1 else 0) == j
  | .int i, .bl b => i == (if b then 1 else 0)
  | .int i, .int j => i == j
  | .str s, .str t => s == t
  | .tup a, .tup b => D.eqvs a b
  | .lst a, .lst b => D.eqvs a b
  | _, _ => false
def D.eqvs : List D → List D → Bool
  | [], [] => true
  | a :: as, b :: bs => a.eqv b && D.eqvs as bs
  | _, _ => false
end
/-- truth -/
def D.truth : D → Option Bool
  | .non => some false
  | .bl b => some b
  | .int i => some (i != 0)
  | .str s => some (!s.isEmpty)
  | .tup ds => some (!ds.isEmpty)
  | .lst ds => some (!ds.isEmpty)
  | .scr ds => some (!ds.isEmpty)
  | _ => none
/-- the name of its type -/
def D.typ : D → Option String
  | .non => some "NoneType"
  | .bl _ => some "bool"
  | .int _ => some "int"
  | .str _ => some "str"
  | .tup _ => some "tuple"
  | .lst _ => some "list"
  | _ => none

/-! ### what a name of a def holds: a value, or a list of its own -/
inductive Cell where
  | val (d : D)
  | own (ds : List D)
  deriving Inhabited
def Cell.frz : Cell → D
  | .val d => d
  | .own ds => .lst ds
abbrev Env := List (Option Cell)
/-- an exception: its class, its field -/
structure Exn where
  cls : Str
  arg : Option (Str × D)
inductive Res (α : Type) where
  | ok (a : α) (ρ : Env)
  | ex (x : Exn) (ρ : Env)
  | no
def Res.bind {α β : Type} (r : Res α) (f : α → Env → Res β) : Res β := match r with
  | .ok a ρ => f a ρ
  | .ex x ρ => .ex x ρ
  | .no => .no
/-- what a call comes to -/
inductive CR where
  | ok (c : Cell)
  | ex (x : Exn)
  | no
/-- from an option -/
def Res.of {α : Type} (o : Option α) (ρ : Env) : Res α := match o with
  | some a => .ok a ρ
  | none => .no

/-! ### operations by values -/
inductive Op where
  | add | sub | mul | fdiv | mod | pow | shl
inductive Cm where
  | eq | ne | lt | le | gt | ge | isin | notin | is | isnot
def smallI (i : Int) : Bool := decide (-(2 ^ 64) < i) && decide (i < 2 ^ 64)
def Op.run : Op → D → D → Option Cell
  | .add, .int i, .int j => some (.val (.int (i + j)))
  | .add, .str s, .str t => if s.length + t.length ≤ LIM then some (.val (.str (s ++ t))) else none
  | .add, .tup a, .tup b => if a.length + b.length ≤ LIM then some (.val (.tup (a ++ b))) else none
  | .add, .lst a, .lst b => if a.length + b.length ≤ LIM then some (.own (a ++ b)) else none
  | .sub, .int i, .int j => some (.val (.int (i - j)))
  | .mul, .int i, .int j => if smallI i || smallI j then some (.val (.int (i * j))) else none
  | .fdiv, .int i, .int j => if 0 < j ∧ j < 1073741824 then some (.val (.int (i / j))) else none
  | .mod, .int i, .int j => if 0 < j then some (.val (.int (i % j))) else none
  | .pow, .int i, .int j => if 0 ≤ j ∧ j ≤ 1000000 ∧ i.natAbs < 2 ^ 64 then some (.val (.int (i ^ j.toNat))) else none
  | .shl, .int i, .int j => if 0 ≤ j ∧ j ≤ 1000000 ∧ i.natAbs < 2 ^ 64 then some (.val (.int (i * 2 ^ j.toNat))) else none
  | _, _, _ => none
/-- a text in a text -/
def subs (a b : List Nat) : Bool := !(Builtin.Str.occurrences ⟨b.toArray⟩ ⟨a.toArray⟩ 0 b.length 1).isEmpty
def D.isin : D → D → Option Bool
  | .str a, .str b => some (subs a b)
  | d, .tup ds => if d.flat 40 && D.flats 40 ds then some (ds.any fun z => z.eqv d) else none
  | d, .lst ds => if d.flat 40 && D.flats 40 ds then some (ds.any fun z => z.eqv d) else none
  | _, _ => none
def D.isb : D → D → Option Bool
  | .non, .non => some true
  | .bl _, .non => some false
  | .int _, .non => some false
  | .str _, .non => some false
  | .tup _, .non => some false
  | .lst _, .non => some false
  | .bl a, .bl b => some (a == b)
  | _, _ => none
def Cm.run : Cm → D → D → Option Bool
  | .eq, a, b => if a.flat 40 && b.flat 40 then some (a.eqv b) else none
  | .ne, a, b => if a.flat 40 && b.flat 40 then some (!a.eqv b) else none
  | .lt, .int i, .int j => some (decide (i < j))
  | .lt, .str s, .str t => some (decide (s < t))
  | .le, .int i, .int j => some (decide (i ≤ j))
  | .gt, .int i, .int j => some (decide (j < i))
  | .ge, .int i, .int j => some (decide (j ≤ i))
  | .isin, a, b => a.isin b
  | .notin, a, b => (a.isin b).map (!·)
  | .is, a, b => a.isb b
  | .isnot, a, b => (a.isb b).map (!·)
  | _, _, _ => none
def Cm.runI : Cm → D → D → Option Bool
  | .lt, .int i, .int j => some (decide (i < j))
  | .le, .int i, .int j => some (decide (i ≤ j))
  | .gt, .int i, .int j => some (decide (j < i))
  | .ge, .int i, .int j => some (decide (j ≤ i))
  | _, _, _ => none
/-- a[i] -/
def D.idx : D → D → Option D
  | .tup ds, .int i => L2.atI ds i
  | .lst ds, .int i => L2.atI ds i
  | .scr ds, .int i => (L2.atI ds i).map .int
  | .str s, .int i => (L2.atI s i).map fun c => .str [c]
  | _, _ => none
/-- a[lo:hi] of a list, a text -/
def cutL {α : Type} (xs : List α) (lo hi : Option Int) : List α := (xs.drop (HT.sIx xs.length 0 lo)).take (HT.sIx xs.length xs.length hi - HT.sIx xs.length 0 lo)
def D.slc : D → Option Int → Option Int → Option Cell
  | .tup ds, lo, hi => if HT.sIx ds.length 0 lo = 0 ∧ HT.sIx ds.length ds.length hi = ds.length then some (.val (.tup ds)) else some (.val (.tup (cutL ds lo hi)))
  | .lst ds, lo, hi => some (.own (cutL ds lo hi))
  | .str s, lo, hi => some (.val (.str (cutL s lo hi)))
  | _, _, _ => none
def D.asInt : D → Option Int
  | .int i => some i
  | _ => none
def D.asBl : D → Option Bool
  | .bl i => some i
  | _ => none
def D.asStr : D → Option (List Nat)
  | .str i => some i
  | _ => none
def allOf {α β : Type} (f : α → Option β) : List α → Option (List β)
  | [] => some []
  | a :: as => match f a, allOf f as with
    | some b, some bs => some (b :: bs)
    | _, _ => none
/-- built-in functions -/
inductive Bi where
  | len | abs | int | all | any | tuple | list | sum | max2 | min2 | str
def Bi.run : Bi → List D → Option Cell
  | .len, [.str s] => some (.val (.int s.length))
  | .len, [.tup s] => some (.val (.int s.length))
  | .len, [.lst s] => some (.val (.int s.length))
  | .len, [.scr s] => some (.val (.int s.length))
  | .abs, [.int i] => some (.val (.int (if i < 0 then -i else i)))
  | .int, [.int i] => some (.val (.int i))
  | .int, [.bl b] => some (.val (.int (if b then 1 else 0)))
  | .all, [.lst ds] => (allOf D.asBl ds).map fun bs => .val (.bl (bs.all id))
  | .any, [.lst ds] => (allOf D.asBl ds).map fun bs => .val (.bl (bs.any id))
  | .tuple, [.tup ds] => some (.val (.tup ds))
  | .tuple, [.lst ds] => some (.val (.tup ds))
  | .list, [.tup ds] => some (.own ds)
  | .list, [.lst ds] => some (.own ds)
  | .sum, [.lst ds] => (allOf D.asInt ds).map fun ns => .val (.int ns.sum)
  | .max2, [.int i, .int j] => some (.val (.int (if j > i then j else i)))
  | .min2, [.int i, .int j] => some (.val (.int (if j < i then j else i)))
  | .str, [.int i] => if 0 ≤ i ∧ i < 1000000000 then some (.val (.str (TL.numL i.toNat))) else none
  | _, _ => none
/-- built-in methods -/
inductive Mt where
  | find | replace | split | words | join | rstrip | rstripC | index | strip | count | startswith
def sOf (a : List Nat) : Str := ⟨a.toArray⟩
def Mt.run : Mt → D → List D → Option Cell
  | .find, .str a, [.str b] => some (.val (.int (PySem.Txt.find (sOf a) (sOf b))))
  | .replace, .str a, [.str y, .str z] => if 1 ≤ y.length ∧ a.length + (a.length + 1) * z.length ≤ LIM then some (.val (.str (PySem.StrLaws.replL y z a))) else none
  | .split, .str a, [.str b] => if b.length ≠ 0 ∧ a.length + 2 ≤ LIM then some (.own ((PySem.Txt.split (sOf a) (sOf b)).map fun x => .str (TL.tl x))) else none
  | .words, .str a, [] => if a.length + 2 ≤ LIM then some (.own ((PySem.Txt.words (sOf a)).map fun x => .str (TL.tl x))) else none
  | .join, .str a, [.lst ds] => match allOf D.asStr ds with
    | some xs => if (xs.map List.length).sum + xs.length * a.length ≤ LIM then some (.val (.str (TL.joinL a xs))) else none
    | none => none
  | .join, .str a, [.tup ds] => match allOf D.asStr ds with
    | some xs => if (xs.map List.length).sum + xs.length * a.length ≤ LIM then some (.val (.str (TL.joinL a xs))) else none
    | none => none
  | .rstrip, .str a, [] => some (.val (.str (TL.tl (PySem.Txt.rstrip (sOf a)))))
  | .rstripC, .str a, [.str b] => some (.val (.str (TL.tl (PySem.Txt.rstripChars (sOf a) (sOf b)))))
  | .strip, .str a, [] => some (.val (.str (TL.tl (PySem.Txt.strip (sOf a)))))
  | .index, .str a, [.str b] => match Builtin.Str.occurrences (sOf a) (sOf b) 0 a.length 1 with
    | i :: _ => some (.val (.int (i : Nat)))
    | [] => none
  | .count, .str a, [.str b] => some (.val (.int (PySem.Txt.count (sOf a) (sOf b))))
  | .startswith, .str a, [.str b] => some (.val (.bl (PySem.Txt.startswith (sOf a) (sOf b))))
  | _, _, _ => none

/-! ### the language -/
/-- targets -/
inductive Tg where
  | nm (i : Nat)
  | tp (is : List Nat)
mutual
inductive E where
  | cst (d : D)
  | var (i : Nat)
  | take (i : Nat)
  | fz (i : Nat)
  | glb (x : Str) (d : D)
  | tup (es : Es)
  | lst (es : Es)
  | bin (o : Op) (a b : E)
  | neg (a : E)
  | not (a : E)
  | and (a b : E)
  | or (a b : E)
  | ite (c a b : E)
  | cmp (o : Cm) (a b : E)
  | cmp2 (o p : Cm) (a b c : E)
  | idx (a i : E)
  | slc (a : E) (lo hi : Eo)
  | call (f : Str) (es : Es)
  | callv (f : E) (es : Es)
  | bi (b : Bi) (es : Es)
  | biP (b : Bi) (i : Nat)
  | mt (m : Mt) (r : E) (es : Es)
  | mtP (m : Mt) (r : E) (i : Nat)
  | isi (a : E) (n : String)
  | comp (e : E) (tg : Tg) (it : It)
  | compC (e : E) (tg : Tg) (it : It) (c : E)
inductive Es where
  | nil
  | cons (e : E) (es : Es)
inductive Eo where
  | non
  | som (e : E)
inductive It where
  | of (e : E)
  | rg1 (e : E)
  | rg2 (a b : E)
  | enum (e : E)
  | zip (a b : E)
end

def Env.get (ρ : Env) (i : Nat) : Option Cell := (ρ[i]?).join
def Env.put (ρ : Env) (i : Nat) (c : Option Cell) : Env := ρ.set i c
/-- a value is stored -/
def Tg.put : Tg → D → Env → Option Env
  | .nm i, d, ρ => some (ρ.set i (some (.val d)))
  | .tp is, .tup ds, ρ => if is.length = ds.length then some ((is.zip ds).foldl (fun ρ p => ρ.set p.1 (some (.val p.2))) ρ) else none
  | _, _, _ => none
def Tg.ixs : Tg → List Nat
  | .nm i => [i]
  | .tp is => is
/-- the names of a target without a value -/
def wipeE (ρ : Env) : List Nat → Env
  | [] => ρ
  | v :: vs => (wipeE ρ vs).set v none
def Tg.wipe (t : Tg) (ρ : Env) : Env := wipeE ρ t.ixs
/-- .. as they were -/
def backE (ρ0 ρ : Env) : List Nat → Env
  | [] => ρ
  | v :: vs => (backE ρ0 ρ vs).set v (ρ0.get v)
def Tg.back (t : Tg) (ρ0 ρ : Env) : Env := backE ρ0 ρ t.ixs
/-- no list of its own stands there -/
def Tg.free (t : Tg) (ρ : Env) : Bool := t.ixs.all fun i => match ρ.get i with
  | some (.own _) => false
  | _ => true

/-- the turns of a comprehension: f the element's, from the left -/
def compL (tg : Tg) (f : Env → Res (Option D)) : List D → List D → Env → Res (List D)
  | [], acc, ρ => .ok acc (tg.wipe ρ)
  | d :: ds, acc, ρ => match tg.put d (tg.wipe ρ) with
    | none => .no
    | some ρ1 => match f ρ1 with
      | .ok (some x) ρ2 => if acc.length < LIM then compL tg f ds (acc ++ [x]) ρ2 else .no
      | .ok none ρ2 => compL tg f ds acc ρ2
      | .ex _ _ => .no
      | .no => .no
def enumL (ds : List D) : List D := (ds.zipIdx).map fun p => .tup [.int (p.2 : Nat), p.1]
def zipL (as bs : List D) : List D := (as.zip bs).map fun p => .tup [p.1, p.2]
def rangeL (lo : Int) (n : Nat) : List D := (List.range n).map fun k => .int (lo + (k : Nat))
def small62 (i : Int) : Bool := decide (-(2 ^ 62) ≤ i) && decide (i < 2 ^ 62)
def D.items : D → Option (List D)
  | .tup ds => some ds
  | .lst ds => some ds
  | .str s => some (s.map fun c => .str [c])
  | .scr ns => some (ns.map .int)
  | _ => none

section
variable (Γ : Str → List D → CR)
mutual
def ev : E → Env → Res Cell
  | .cst d, ρ => .ok (.val d) ρ
  | .var i, ρ => match ρ.get i with
    | some (.val d) => .ok (.val d) ρ
    | _ => .no
  | .take i, ρ => match ρ.get i with
    | some c => .ok c (ρ.put i none)
    | none => .no
  | .fz i, ρ => match ρ.get i with
    | some c => .ok (.val c.frz) (ρ.put i (some (.val c.frz)))
    | none => .no
  | .glb _ d, ρ => .ok (.val d) ρ
  | .tup es, ρ => (evs es ρ).bind fun ds ρ => if ds.length ≤ LIM then .ok (.val (.tup ds)) ρ else .no
  | .lst es, ρ => (evs es ρ).bind fun ds ρ => if ds.length ≤ LIM then .ok (.own ds) ρ else .no
  | .bin o a b, ρ => (ev a ρ).bind fun x ρ => (ev b ρ).bind fun y ρ => .of (o.run x.frz y.frz) ρ
  | .neg a, ρ => (ev a ρ).bind fun x ρ => match x.frz with
    | .int i => .ok (.val (.int (-i))) ρ
    | _ => .no
  | .not a, ρ => (ev a ρ).bind fun x ρ => .of (x.frz.truth.map fun b => .val (.bl (!b))) ρ
  | .and a b, ρ => (ev a ρ).bind fun x ρ => match x.frz.truth with
    | some true => ev b ρ
    | some false => .ok (.val x.frz) ρ
    | none => .no
  | .or a b, ρ => (ev a ρ).bind fun x ρ => match x.frz.truth with
    | some true => .ok (.val x.frz) ρ
    | some false => ev b ρ
    | none => .no
  | .ite c a b, ρ => (ev c ρ).bind fun x ρ => match x.frz.truth with
    | some true => ev a ρ
    | some false => ev b ρ
    | none => .no
  | .cmp o a b, ρ => (ev a ρ).bind fun x ρ => (ev b ρ).bind fun y ρ => .of ((o.run x.frz y.frz).map fun k => .val (.bl k)) ρ
  | .cmp2 o p a b c, ρ => (ev a ρ).bind fun x ρ => (ev b ρ).bind fun y ρ => match o.runI x.frz y.frz with
    | some true => (ev c ρ).bind fun z ρ => .of ((p.runI y.frz z.frz).map fun k => .val (.bl k)) ρ
    | some false => .ok (.val (.bl false)) ρ
    | none => .no
  | .idx a i, ρ => (ev a ρ).bind fun x ρ => (ev i ρ).bind fun y ρ => .of ((x.frz.idx y.frz).map .val) ρ
  | .slc a lo hi, ρ => (ev a ρ).bind fun x ρ => (evo lo ρ).bind fun l ρ => (evo hi ρ).bind fun h ρ => .of (x.frz.slc l h) ρ
  | .call f es, ρ => (evs es ρ).bind fun ds ρ => match Γ f ds with
    | .ok c => .ok c ρ
    | .ex x => .ex x ρ
    | .no => .no
  | .callv f es, ρ => (ev f ρ).bind fun x ρ => match x.frz with
    | .fn g => (evs es ρ).bind fun ds ρ => match Γ g ds with
      | .ok c => .ok c ρ
      | .ex x => .ex x ρ
      | .no => .no
    | _ => .no
  | .bi b es, ρ => (evs es ρ).bind fun ds ρ => .of (b.run ds) ρ
  | .biP b i, ρ => match ρ.get i with
    | some c => .of (b.run [c.frz]) ρ
    | none => .no
  | .mt m r es, ρ => (ev r ρ).bind fun x ρ => match x.frz with
    | .str a => (evs es ρ).bind fun ds ρ => .of (m.run (.str a) ds) ρ
    | _ => .no
  | .mtP m r i, ρ => (ev r ρ).bind fun x ρ => match x.frz with
    | .str a => (match ρ.get i with
      | some c => .of (m.run (.str a) [c.frz]) ρ
      | none => .no)
    | _ => .no
  | .isi a n, ρ => (ev a ρ).bind fun x ρ => .of ((x.frz.typ.bind fun t => L2.kitB t n).map fun k => .val (.bl k)) ρ
  | .comp e tg it, ρ => (evi it ρ).bind fun ds ρ => if tg.free ρ then (compL tg (fun ρ => (ev e ρ).bind fun c ρ => .ok (some c.frz) ρ) ds [] ρ).bind fun xs ρ' => .ok (.own xs) (tg.back ρ ρ') else .no
  | .compC e tg it c, ρ => (evi it ρ).bind fun ds ρ => if tg.free ρ then (compL tg (fun ρ => (ev c ρ).bind fun k ρ => match k.frz.truth with
      | some true => (ev e ρ).bind fun c ρ => .ok (some c.frz) ρ
      | some false => .ok none ρ
      | none => .no) ds [] ρ).bind fun xs ρ' => .ok (.own xs) (tg.back ρ ρ') else .no
def evs : Es → Env → Res (List D)
  | .nil, ρ => .ok [] ρ
  | .cons e es, ρ => (ev e ρ).bind fun c ρ => (evs es ρ).bind fun ds ρ => .ok (c.frz :: ds) ρ
def evo : Eo → Env → Res (Option Int)
  | .non, ρ => .ok none ρ
  | .som e, ρ => (ev e ρ).bind fun c ρ => match c.frz with
    | .int i => .ok (some i) ρ
    | _ => .no
def evi : It → Env → Res (List D)
  | .of e, ρ => (ev e ρ).bind fun c ρ => .of c.frz.items ρ
  | .rg1 e, ρ => (ev e ρ).bind fun c ρ => match c.frz with
    | .int j => if small62 j then .ok (rangeL 0 j.toNat) ρ else .no
    | _ => .no
  | .rg2 a b, ρ => (ev a ρ).bind fun c ρ => (ev b ρ).bind fun d ρ => match c.frz, d.frz with
    | .int i, .int j => if small62 i && small62 j then .ok (rangeL i (j - i).toNat) ρ else .no
    | _, _ => .no
  | .enum e, ρ => (ev e ρ).bind fun c ρ => match c.frz with
    | .lst ds => .ok (enumL ds) ρ
    | _ => .no
  | .zip a b, ρ => (ev a ρ).bind fun c ρ => (ev b ρ).bind fun d ρ => match c.frz, d.frz with
    | .lst as, .lst bs => .ok (zipL as bs) ρ
    | _, _ => .no
end
end

end Bw

set_option Elab.async false
set_option linter.all false
set_option maxRecDepth 100000
/-! Bw2: how values, names' cells and frames stand in the layer's heap. -/
namespace Bw
open PySem PySem.Spec PyProof.Rows L2

/-- addresses that may be written -/
abbrev Av := Addr → Prop

/-- a text's signs -/
def okS (s : List Nat) : Prop := s.length ≤ LIM ∧ ∀ c ∈ s, c < 0x110000
/-! ### values -/
def RdT (K : PySem.W.Frag) (A : Av) (H : Hp) (p : Addr) (ws : List V) : Prop :=
  (Rd H p (.tup ws) ∧ ¬ A p) ∨ ∃ (o : Obj) (its : Array Value) (n : Nat), K.lookup p = some o ∧ o.cls = .type "tuple" ∧ o.data = .seq its n ∧ its.size ≤ sizeLine ∧ Vals ws its.toList
def RdL (K : PySem.W.Frag) (A : Av) (H : Hp) (p : Addr) (ws : List V) : Prop :=
  (Rd H p (.lst ws) ∧ ¬ A p) ∨ ∃ (o : Obj) (its : Array Value) (n : Nat), K.lookup p = some o ∧ o.cls = .type "list" ∧ o.dict = none ∧ o.data = .seq its n ∧ its.size ≤ sizeLine ∧ Vals ws its.toList
theorem RdT.sq {K : PySem.W.Frag} {A : Av} {H : Hp} {p : Addr} {ws : List V} (h : RdT K A H p ws) : SqT K H p ws := by
  rcases h with ⟨h, _⟩ | h
  · exact .inl h
  · exact .inr h
theorem RdL.sq {K : PySem.W.Frag} {A : Av} {H : Hp} {p : Addr} {ws : List V} (h : RdL K A H p ws) : SqL K H p ws := by
  rcases h with ⟨h, _⟩ | h
  · exact .inl h
  · exact .inr h

/-- what is not written stays, what may be written is old or new -/
structure Evo (A : Av) (H : Hp) (A' : Av) (H' : Hp) : Prop where
  keep : ∀ b o, H b = some o → ¬ A b → H' b = some o
  old : ∀ b, A' b → A b ∨ H b = none
theorem Evo.rd {A A' : Av} {H H' : Hp} (e : Evo A H A' H') {p : Addr} {o : HO} (h : Rd H p o) (n : ¬ A p) : Rd H' p o ∧ ¬ A' p := by
  have key : ∀ u, H p = some u → ¬ A' p := fun u q z => by
    rcases e.old p z with z | z
    · exact n z
    · rw [q] at z; cases z
  rcases h with h | ⟨u, h⟩
  · exact ⟨.inl (e.keep _ _ h n), key _ h⟩
  · exact ⟨.inr ⟨u, e.keep _ _ h n⟩, key _ h⟩
theorem RdT.evo {K : PySem.W.Frag} {A A' : Av} {H H' : Hp} {p : Addr} {ws : List V} (e : Evo A H A' H') (h : RdT K A H p ws) : RdT K A' H' p ws := by
  rcases h with ⟨h, n⟩ | h
  · exact .inl (e.rd h n)
  · exact .inr h
theorem RdL.evo {K : PySem.W.Frag} {A A' : Av} {H H' : Hp} {p : Addr} {ws : List V} (e : Evo A H A' H') (h : RdL K A H p ws) : RdL K A' H' p ws := by
  rcases h with ⟨h, n⟩ | h
  · exact .inl (e.rd h n)
  · exact .inr h

section
variable (K : PySem.W.Frag) (mg : Str → Option Value) (A : Av) (H : Hp)
mutual
/-- v stands for the value d; what is written leaves it as it is -/
def VR : D → V → Prop
  | .non, v => v = .non
  | .bl b, v => v = .bl b
  | .int i, v => v = .int i
  | .str s, v => v = .str ⟨s.toArray⟩ ∧ okS s
  | .tup ds, v => ∃ p ws, v = .ref p ∧ RdT K A H p ws ∧ VRs ds ws
  | .lst ds, v => ∃ p ws, v = .ref p ∧ (H p = some (.lst ws) ∧ ¬ A p) ∧ VRs ds ws
  | .scr ns, v => ∃ p, v = .ref p ∧ RdL K A H p (ns.map V.int)
  | .fn x, v => ∃ a, v = .ref a ∧ mg x = some (.ref a) ∧ PySem.W.keepIn K (.ref a) = true
  | .ty n, v => v = .ty n
def VRs : List D → List V → Prop
  | [], ws => ws = []
  | d :: ds, ws => ∃ w ws', ws = w :: ws' ∧ VR d w ∧ VRs ds ws'
end
end
section
variable {K : PySem.W.Frag} {mg : Str → Option Value} {A A' : Av} {H H' : Hp}
mutual
theorem VR.evo (e : Evo A H A' H') : ∀ {d : D} {v : V}, VR K mg A H d v → VR K mg A' H' d v
  | .non, _, h => h
  | .bl _, _, h => h
  | .int _, _, h => h
  | .str _, _, h => h
  | .tup ds, _, h => by
    obtain ⟨p, ws, e1, r, rs⟩ := h
    exact ⟨p, ws, e1, r.evo e, VRs.evo e rs⟩
  | .lst ds, _, h => by
    obtain ⟨p, ws, e1, ⟨r1, r2⟩, rs⟩ := h
    obtain ⟨r3, r4⟩ := e.rd (.inl r1) r2
    exact ⟨p, ws, e1, ⟨e.keep _ _ r1 r2, r4⟩, VRs.evo e rs⟩
  | .scr _, _, h => by
    obtain ⟨p, e1, r⟩ := h
    exact ⟨p, e1, r.evo e⟩
  | .fn _, _, h => h
  | .ty _, _, h => h
theorem VRs.evo (e : Evo A H A' H') : ∀ {ds : List D} {ws : List V}, VRs K mg A H ds ws → VRs K mg A' H' ds ws
  | [], _, h => h
  | d :: ds, _, h => by
    obtain ⟨w, ws', e1, r, rs⟩ := h
    exact ⟨w, ws', e1, VR.evo e r, VRs.evo e rs⟩
end
theorem VRs.nil : VRs K mg A H [] [] := rfl
theorem VRs.cons {d : D} {v : V} {ds : List D} {ws : List V} (h : VR K mg A H d v) (t : VRs K mg A H ds ws) : VRs K mg A H (d :: ds) (v :: ws) := ⟨v, ws, rfl, h, t⟩
theorem VRs.pair : ∀ {ds : List D} {ws : List V}, VRs K mg A H ds ws → Paired (VR K mg A H) ds ws
  | [], _, h => by
    obtain rfl : _ = [] := h
    exact .nil
  | d :: ds, _, h => by
    obtain ⟨w, ws', rfl, r, rs⟩ := h
    exact .cons r rs.pair
theorem VRs.of : ∀ {ds : List D} {ws : List V}, Paired (VR K mg A H) ds ws → VRs K mg A H ds ws
  | _, _, .nil => rfl
  | _, _, .cons r rs => ⟨_, _, rfl, r, VRs.of rs⟩
theorem VRs.length {ds : List D} {ws : List V} (h : VRs K mg A H ds ws) : ds.length = ws.length := Paired.length h.pair
theorem VRs.append : ∀ {ds es : List D} {ws us : List V}, VRs K mg A H ds ws → VRs K mg A H es us → VRs K mg A H (ds ++ es) (ws ++ us)
  | [], _, _, _, h, t => by
    obtain rfl : _ = [] := h
    exact t
  | d :: ds, _, _, _, h, t => by
    obtain ⟨w, ws', rfl, r, rs⟩ := h
    exact ⟨w, ws' ++ _, rfl, r, VRs.append rs t⟩
theorem VRs.get : ∀ {ds : List D} {ws : List V} {i : Nat} {w : V}, VRs K mg A H ds ws → ws[i]? = some w → ∃ d, ds[i]? = some d ∧ VR K mg A H d w
  | [], _, _, _, h, e => by
    obtain rfl : _ = [] := h
    simp at e
  | d :: ds, _, 0, w, h, e => by
    obtain ⟨w', ws', rfl, r, rs⟩ := h
    simp at e
    subst e
    exact ⟨d, rfl, r⟩
  | d :: ds, _, i + 1, w, h, e => by
    obtain ⟨w', ws', rfl, r, rs⟩ := h
    simp at e
    obtain ⟨d', e', r'⟩ := rs.get e
    exact ⟨d', by simpa using e', r'⟩
theorem VRs.get' : ∀ {ds : List D} {ws : List V} {i : Nat} {d : D}, VRs K mg A H ds ws → ds[i]? = some d → ∃ w, ws[i]? = some w ∧ VR K mg A H d w
  | [], _, _, _, h, e => by simp at e
  | d :: ds, _, 0, _, h, e => by
    obtain ⟨w', ws', rfl, r, rs⟩ := h
    simp at e
    subst e
    exact ⟨w', rfl, r⟩
  | d :: ds, _, i + 1, _, h, e => by
    obtain ⟨w', ws', rfl, r, rs⟩ := h
    simp at e
    obtain ⟨w, e', r'⟩ := rs.get' e
    exact ⟨w, by simpa using e', r'⟩
theorem VRs.drop : ∀ {ds : List D} {ws : List V} (n : Nat), VRs K mg A H ds ws → VRs K mg A H (ds.drop n) (ws.drop n)
  | _, _, 0, h => h
  | [], _, n + 1, h => by
    obtain rfl : _ = [] := h
    exact rfl
  | d :: ds, _, n + 1, h => by
    obtain ⟨w', ws', rfl, r, rs⟩ := h
    exact rs.drop n
theorem VRs.take : ∀ {ds : List D} {ws : List V} (n : Nat), VRs K mg A H ds ws → VRs K mg A H (ds.take n) (ws.take n)
  | _, _, 0, h => rfl
  | [], _, n + 1, h => by
    obtain rfl : _ = [] := h
    exact rfl
  | d :: ds, _, n + 1, h => by
    obtain ⟨w', ws', rfl, r, rs⟩ := h
    exact ⟨_, _, rfl, r, rs.take n⟩
theorem VRs.set : ∀ {ds : List D} {ws : List V} {d : D} {w : V} (i : Nat), VRs K mg A H ds ws → VR K mg A H d w → VRs K mg A H (ds.set i d) (ws.set i w)
  | [], _, _, _, i, h, _ => by
    obtain rfl : _ = [] := h
    exact rfl
  | d :: ds, _, _, _, 0, h, r2 => by
    obtain ⟨w', ws', rfl, r, rs⟩ := h
    exact ⟨_, _, rfl, r2, rs⟩
  | d :: ds, _, _, _, i + 1, h, r2 => by
    obtain ⟨w', ws', rfl, r, rs⟩ := h
    exact ⟨_, _, rfl, r, rs.set i r2⟩
theorem VRs.cut {ds : List D} {ws : List V} (lo hi : Option Int) (h : VRs K mg A H ds ws) : VRs K mg A H (cutL ds lo hi) (cutV ws lo hi) := by
  unfold cutL cutV
  rw [h.length]
  exact (h.drop _).take _
theorem VRs.atI {ds : List D} {ws : List V} {i : Int} {d : D} (h : VRs K mg A H ds ws) (e : L2.atI ds i = some d) : ∃ w, L2.atI ws i = some w ∧ VR K mg A H d w := by
  unfold L2.atI at e ⊢
  rw [← h.length]
  cases q : ixN ds.length i with
  | none => rw [q] at e; cases e
  | some j =>
    rw [q] at e
    exact h.get' e

/-! ### cells -/
/-- v stands for what a name holds; F: the addresses that are its own -/
def CRel (K : PySem.W.Frag) (mg : Str → Option Value) (A : Av) (H : Hp) : Cell → V → List Addr → Prop
  | .val d, v, F => F = [] ∧ VR K mg A H d v
  | .own ds, v, F => ∃ p ws, F = [p] ∧ v = .ref p ∧ H p = some (.lst ws) ∧ VRs K mg A H ds ws
theorem CRel.evo (e : Evo A H A' H') {c : Cell} {v : V} {F : List Addr} (hF : ∀ p ∈ F, ∀ o, H p = some o → H' p = some o) (h : CRel K mg A H c v F) : CRel K mg A' H' c v F := by
  cases c with
  | val d => exact ⟨h.1, h.2.evo e⟩
  | own ds =>
    obtain ⟨p, ws, rfl, rfl, hp, rs⟩ := h
    exact ⟨p, ws, rfl, rfl, hF p (by simp) _ hp, rs.evo e⟩
theorem CRel.live {c : Cell} {v : V} {F : List Addr} (h : CRel K mg A H c v F) : ∀ p ∈ F, H p ≠ none := by
  cases c with
  | val d =>
    obtain ⟨rfl, _⟩ := h
    intro p hp
    cases hp
  | own ds =>
    obtain ⟨p, ws, rfl, rfl, hp, rs⟩ := h
    intro q hq
    rw [List.mem_singleton.mp hq, hp]
    simp
/-- frozen: its own addresses are no more written -/
theorem CRel.frz {c : Cell} {v : V} {F : List Addr} (hA : ∀ p, A' p → A p) (hF : ∀ p ∈ F, ¬ A' p) (h : CRel K mg A H c v F) : VR K mg A' H c.frz v := by
  have ev : Evo A H A' H := ⟨fun _ _ q _ => q, fun b q => .inl (hA b q)⟩
  cases c with
  | val d => exact h.2.evo ev
  | own ds =>
    obtain ⟨p, ws, rfl, rfl, hp, rs⟩ := h
    exact ⟨p, ws, rfl, ⟨hp, hF p (by simp)⟩, rs.evo ev⟩

/-! ### frames -/
def SR (K : PySem.W.Frag) (mg : Str → Option Value) (A : Av) (H : Hp) : Option Cell → Option V → List Addr → Prop
  | none, _, F => F = []
  | some c, some v, F => CRel K mg A H c v F
  | some _, none, _ => False
def ER (K : PySem.W.Frag) (mg : Str → Option Value) (A : Av) (H : Hp) : Env → L2.St → List Addr → Prop
  | [], σ, F => σ = [] ∧ F = []
  | c :: ρ, σ, F => ∃ v σ' F1 F2, σ = v :: σ' ∧ F = F1 ++ F2 ∧ SR K mg A H c v F1 ∧ ER K mg A H ρ σ' F2
theorem SR.evo (e : Evo A H A' H') {c : Option Cell} {v : Option V} {F : List Addr} (hF : ∀ p ∈ F, ∀ o, H p = some o → H' p = some o) (h : SR K mg A H c v F) : SR K mg A' H' c v F := by
  cases c with
  | none => exact h
  | some c =>
    cases v with
    | none => exact h
    | some v => exact CRel.evo e hF h
theorem SR.live {c : Option Cell} {v : Option V} {F : List Addr} (h : SR K mg A H c v F) : ∀ p ∈ F, H p ≠ none := by
  cases c with
  | none =>
    obtain rfl : F = [] := h
    intro p hp
    cases hp
  | some c =>
    cases v with
    | none => exact h.elim
    | some v => exact CRel.live h
theorem ER.evo (e : Evo A H A' H') : ∀ {ρ : Env} {σ : L2.St} {F : List Addr}, (∀ p ∈ F, ∀ o, H p = some o → H' p = some o) → ER K mg A H ρ σ F → ER K mg A' H' ρ σ F
  | [], _, _, _, h => h
  | c :: ρ, _, _, hF, h => by
    obtain ⟨v, σ', F1, F2, e1, rfl, s, t⟩ := h
    exact ⟨v, σ', F1, F2, e1, rfl, s.evo e fun p hp => hF p (List.mem_append_left _ hp), ER.evo e (fun p hp => hF p (List.mem_append_right _ hp)) t⟩
theorem ER.live : ∀ {ρ : Env} {σ : L2.St} {F : List Addr}, ER K mg A H ρ σ F → ∀ p ∈ F, H p ≠ none
  | [], _, _, h => by
    obtain ⟨_, rfl⟩ := h
    intro p hp
    cases hp
  | c :: ρ, _, _, h => by
    obtain ⟨v, σ', F1, F2, e1, rfl, s, t⟩ := h
    intro p hp
    rcases List.mem_append.mp hp with hp | hp
    · exact s.live p hp
    · exact t.live p hp
theorem ER.length : ∀ {ρ : Env} {σ : L2.St} {F : List Addr}, ER K mg A H ρ σ F → ρ.length = σ.length
  | [], _, _, h => by
    obtain ⟨rfl, _⟩ := h
    rfl
  | c :: ρ, _, _, h => by
    obtain ⟨v, σ', F1, F2, rfl, rfl, s, t⟩ := h
    rw [List.length_cons, List.length_cons, t.length]
/-- one place of a frame, and how it is filled anew -/
theorem ER.at : ∀ {ρ : Env} {σ : L2.St} {F : List Addr} (i : Nat), i < ρ.length → ER K mg A H ρ σ F →
    ∃ c v Fi G, ρ[i]? = some c ∧ σ[i]? = some v ∧ F.Perm (Fi ++ G) ∧ SR K mg A H c v Fi ∧
      ∀ {A' : Av} {H' : Hp} (c' : Option Cell) (v' : Option V) (F1 : List Addr), Evo A H A' H' → (∀ p ∈ G, ∀ o, H p = some o → H' p = some o) → SR K mg A' H' c' v' F1 →
        ∃ F', F'.Perm (F1 ++ G) ∧ ER K mg A' H' (ρ.set i c') (σ.set i v') F'
  | [], _, _, _, hi, _ => by simp at hi
  | c :: ρ, _, _, 0, _, h => by
    obtain ⟨v, σ', F1, F2, rfl, rfl, s, t⟩ := h
    exact ⟨c, v, F1, F2, rfl, rfl, List.Perm.refl _, s, fun c' v' F1' e hG s' => ⟨F1' ++ F2, List.Perm.refl _, v', σ', F1', F2, rfl, rfl, s', t.evo e hG⟩⟩
  | c :: ρ, _, _, i + 1, hi, h => by
    obtain ⟨v, σ', F1, F2, rfl, rfl, s, t⟩ := h
    obtain ⟨c0, v0, Fi, G, e1, e2, pm, s0, put⟩ := ER.at i (by simpa using hi) t
    refine ⟨c0, v0, Fi, F1 ++ G, by simpa using e1, by simpa using e2, ?_, s0, fun c' v' F1' e hG s' => ?_⟩
    · refine (List.Perm.append_left F1 pm).trans ?_
      rw [← List.append_assoc, ← List.append_assoc]
      exact List.Perm.append_right G List.perm_append_comm
    · obtain ⟨F', pm', t'⟩ := put c' v' F1' e (fun p hp => hG p (List.mem_append_right _ hp)) s'
      refine ⟨F1 ++ F', ?_, v, _, F1, F', rfl, rfl, s.evo e fun p hp => hG p (List.mem_append_left _ hp), t'⟩
      refine (List.Perm.append_left F1 pm').trans ?_
      rw [← List.append_assoc, ← List.append_assoc]
      exact List.Perm.append_right G List.perm_append_comm
/-- the frame ρ stands at σ; F are its own addresses, R those of others that it leaves as they are -/
structure Rel (K : PySem.W.Frag) (mg : Str → Option Value) (R : Av) (ρ : Env) (σ : L2.St) (H : Hp) (F : List Addr) : Prop where
  er : ER K mg (fun p => p ∈ F ∨ R p) H ρ σ F
  nd : F.Nodup
  ap : ∀ p ∈ F, ¬ R p
  lv : ∀ p, R p → H p ≠ none
/-- what stood behind a step: no more than the frame's own is written -/
structure Stp (F : List Addr) (H : Hp) (F' : List Addr) (H' : Hp) : Prop where
  keep : ∀ b o, H b = some o → b ∉ F → H' b = some o
  live : ∀ b, H b ≠ none → H' b ≠ none
  old : ∀ b ∈ F', b ∈ F ∨ H b = none
theorem Stp.refl {F : List Addr} {H : Hp} : Stp F H F H := ⟨fun _ _ h _ => h, fun _ h => h, fun _ h => .inl h⟩
theorem Stp.trans {F F1 F2 : List Addr} {H H1 H2 : Hp} (a : Stp F H F1 H1) (b : Stp F1 H1 F2 H2) : Stp F H F2 H2 where
  keep := fun c o h n => by
    refine b.keep c o (a.keep c o h n) fun z => ?_
    rcases a.old c z with z | z
    · exact n z
    · rw [h] at z; cases z
  live := fun c h => b.live c (a.live c h)
  old := fun c h => by
    rcases b.old c h with z | z
    · exact a.old c z
    · refine .inr ?_
      cases q : H c with
      | none => rfl
      | some o => exact absurd z (a.live c (by rw [q]; simp))
theorem Stp.evo {F F' : List Addr} {H H' : Hp} (s : Stp F H F' H') (R : Av) : Evo (fun p => p ∈ F ∨ R p) H (fun p => p ∈ F' ∨ R p) H' where
  keep := fun b o h n => s.keep b o h fun z => n (.inl z)
  old := fun b h => by
    rcases h with h | h
    · rcases s.old b h with z | z
      · exact .inl (.inl z)
      · exact .inr z
    · exact .inl (.inr h)
end
end Bw

set_option Elab.async false
set_option linter.all false
set_option maxRecDepth 100000
/-! Bw3: readings over the layer, and the rules of expressions. -/
namespace Bw
open PySem PySem.Spec PyProof.Rows L2

theorem lim_eq : sizeLine = LIM := by rw [sizeLine_eq]

section
variable {K : PySem.W.Frag} {mg : Str → Option Value} {A A' R : Av} {H H' : Hp} {σ : L2.St} {ρ ρ' : Env} {F : List Addr}

/-- behind a value, frozen -/
def PF (K : PySem.W.Frag) (mg : Str → Option Value) (R : Av) (σ : L2.St) (H : Hp) (F : List Addr) (ρ' : Env) (d : D) (u : V) (H' : Hp) : Prop :=
  ∃ F', Rel K mg R ρ' σ H' F' ∧ VR K mg (fun p => p ∈ F' ∨ R p) H' d u ∧ Stp F H F' H'
/-- behind a cell -/
def PV (K : PySem.W.Frag) (mg : Str → Option Value) (R : Av) (σ : L2.St) (H : Hp) (F : List Addr) (ρ' : Env) (c : Cell) (u : V) (H' : Hp) : Prop :=
  ∃ F' Fc, Rel K mg (fun p => p ∈ Fc ∨ R p) ρ' σ H' F' ∧ CRel K mg (fun p => p ∈ F' ∨ (p ∈ Fc ∨ R p)) H' c u Fc ∧ Fc.Nodup ∧ (∀ p ∈ Fc, ¬ R p) ∧ Stp F H (Fc ++ F') H'
/-- behind a step alone -/
def PB (K : PySem.W.Frag) (mg : Str → Option Value) (R : Av) (σ : L2.St) (H : Hp) (F : List Addr) (ρ' : Env) (H' : Hp) : Prop :=
  ∃ F', Rel K mg R ρ' σ H' F' ∧ Stp F H F' H'
/-- an exception -/
def XR (K : PySem.W.Frag) (mg : Str → Option Value) (A : Av) (x : Exn) (cls : Value) (dx : Option Addr) (H : Hp) : Prop :=
  ∃ C, mg x.cls = some (.ref C) ∧ cls = .ref C ∧ match x.arg with
    | none => dx = none
    | some (f, a) => (XfC K C ∧ PySem.W.findIn K (.ref C) f = some none) ∧ ∃ dd v, dx = some dd ∧ H dd = some (.xd [(f, v)]) ∧ VR K mg A H a v
def PX (K : PySem.W.Frag) (mg : Str → Option Value) (R : Av) (σ : L2.St) (H : Hp) (F : List Addr) (ρ' : Env) (x : Exn) (cls : Value) (dx : Option Addr) (H' : Hp) : Prop :=
  ∃ F', Rel K mg R ρ' σ H' F' ∧ XR K mg (fun p => p ∈ F' ∨ R p) x cls dx H' ∧ Stp F H F' H'

theorem Rel.mono (h : Rel K mg R ρ σ H F) {R' : Av} (hR : ∀ p, R' p → R p) : Rel K mg R' ρ σ H F :=
  ⟨h.er.evo ⟨fun _ _ q _ => q, fun b q => .inl (q.elim .inl fun z => .inr (hR b z))⟩ fun _ _ _ q => q, h.nd, fun p hp z => h.ap p hp (hR p z), fun p z => h.lv p (hR p z)⟩
theorem PV.frz {c : Cell} {u : V} (h : PV K mg R σ H F ρ' c u H') : PF K mg R σ H F ρ' c.frz u H' := by
  obtain ⟨F', Fc, rel, cr, nd, ap, st⟩ := h
  refine ⟨F', rel.mono fun p z => .inr z, CRel.frz (fun p z => z.elim .inl fun q => .inr (.inr q)) (fun p hp z => ?_) cr, ⟨fun b o q n => ?_, st.live, fun b hb => st.old b (List.mem_append_right _ hb)⟩⟩
  · rcases z with z | z
    · exact rel.ap p z (.inl hp)
    · exact ap p hp z
  · exact st.keep b o q n
theorem PF.pv {d : D} {u : V} (h : PF K mg R σ H F ρ' d u H') : PV K mg R σ H F ρ' (.val d) u H' := by
  obtain ⟨F', rel, v, st⟩ := h
  refine ⟨F', [], ?_, ⟨rfl, ?_⟩, List.nodup_nil, (fun _ z => by cases z), st⟩
  · exact rel.mono fun p z => z.elim (fun q => nomatch q) id
  · exact v.evo ⟨fun _ _ q _ => q, fun b q => .inl (q.elim .inl fun z => z.elim (fun y => nomatch y) .inr)⟩
theorem PV.pb {c : Cell} {u : V} (h : PV K mg R σ H F ρ' c u H') : PB K mg R σ H F ρ' H' := by
  obtain ⟨F', a, b, c⟩ := h.frz
  exact ⟨F', a, c⟩

/-- a result that is built on H -/
inductive New (K : PySem.W.Frag) (mg : Str → Option Value) (A : Av) (H : Hp) : Cell → V → Hp → Prop
  | val {d : D} {w : V} : VR K mg A H d w → New K mg A H (.val d) w H
  | tup {p : Addr} {ds : List D} {ws : List V} : H p = none → VRs K mg A H ds ws → New K mg A H (.val (.tup ds)) (.ref p) (upd H p (.tup ws))
  | own {p : Addr} {ds : List D} {ws : List V} : H p = none → VRs K mg A H ds ws → New K mg A H (.own ds) (.ref p) (upd H p (.lst ws))
theorem Rel.new {p : Addr} {o : HO} (h : Rel K mg R ρ σ H F) (n : H p = none) : Rel K mg (fun q => q ∈ [p] ∨ R q) ρ σ (upd H p o) F := by
  have pF : p ∉ F := fun z => h.er.live p z n
  have pR : ¬ R p := fun z => h.lv p z n
  have keep : ∀ q u, H q = some u → upd H p o q = some u := fun q u e => by rw [upd_ne (ne_of_none e n)]; exact e
  refine ⟨h.er.evo ⟨fun b u q _ => keep b u q, fun b z => ?_⟩ fun q _ u e => keep q u e, h.nd, fun q hq z => ?_, fun q z => ?_⟩
  · rcases z with z | z | z
    · exact .inl (.inl z)
    · rw [List.mem_singleton.mp z]
      exact .inr n
    · exact .inl (.inr z)
  · rcases z with z | z
    · rw [List.mem_singleton.mp z] at hq
      exact pF hq
    · exact h.ap q hq z
  · rcases z with z | z
    · rw [List.mem_singleton.mp z, upd_same]
      simp
    · cases e : H q with
      | none => exact absurd e (h.lv q z)
      | some u =>
        rw [keep q u e]
        simp
theorem Stp.new {p : Addr} {o : HO} (n : H p = none) : Stp F H ([p] ++ F) (upd H p o) where
  keep := fun b u e _ => by rw [upd_ne (ne_of_none e n)]; exact e
  live := fun b e => by
    by_cases q : b = p
    · rw [q, upd_same]; simp
    · rw [upd_ne q]; exact e
  old := fun b hb => by
    rcases List.mem_append.mp hb with z | z
    · rw [List.mem_singleton.mp z]
      exact .inr n
    · exact .inl z
theorem Stp.new' {p : Addr} {o : HO} (n : H p = none) : Stp F H F (upd H p o) where
  keep := fun b u e _ => by rw [upd_ne (ne_of_none e n)]; exact e
  live := (Stp.new (F := F) n).live
  old := fun b hb => .inl hb
theorem New.pv {H0 : Hp} {F0 : List Addr} {c : Cell} {w : V} (rel : Rel K mg R ρ σ H F) (st : Stp F0 H0 F H) (x : New K mg (fun p => p ∈ F ∨ R p) H c w H') : PV K mg R σ H0 F0 ρ c w H' := by
  cases x with
  | val v => exact PF.pv ⟨F, rel, v, st⟩
  | tup n vs =>
    rename_i p ds ws
    have r1 := Rel.new (o := .tup ws) rel n
    have keep : ∀ q u, H q = some u → upd H p (.tup ws) q = some u := fun q u e => by rw [upd_ne (ne_of_none e n)]; exact e
    refine PF.pv ⟨F, r1.mono fun q z => .inr z, ⟨p, ws, rfl, .inl ⟨.inl upd_same, fun z => ?_⟩, vs.evo ⟨fun b o q _ => keep b o q, fun b z => .inl z⟩⟩, st.trans (Stp.new' n)⟩
    rcases z with z | z
    · exact rel.er.live p z n
    · exact rel.lv p z n
  | own n vs =>
    rename_i p ds ws
    have keep : ∀ q u, H q = some u → upd H p (.lst ws) q = some u := fun q u e => by rw [upd_ne (ne_of_none e n)]; exact e
    refine ⟨F, [p], Rel.new rel n, ⟨p, ws, rfl, rfl, upd_same, vs.evo ⟨fun b o q _ => keep b o q, fun b z => ?_⟩⟩, by simp, fun q hq z => ?_, st.trans (Stp.new n)⟩
    · rcases z with z | z | z
      · exact .inl (.inl z)
      · rw [List.mem_singleton.mp z]
        exact .inr n
      · exact .inl (.inr z)
    · rw [List.mem_singleton.mp hq] at z
      exact rel.lv p z n

theorem PX.stp {F1 : List Addr} {H1 : Hp} {x : Exn} {cls : Value} {d : Option Addr} (st : Stp F H F1 H1) (h : PX K mg R σ H1 F1 ρ' x cls d H') : PX K mg R σ H F ρ' x cls d H' := by
  obtain ⟨F', rel, xr, s2⟩ := h
  exact ⟨F', rel, xr, st.trans s2⟩
theorem PV.stp {F1 : List Addr} {H1 : Hp} {c : Cell} {u : V} (st : Stp F H F1 H1) (h : PV K mg R σ H1 F1 ρ' c u H') : PV K mg R σ H F ρ' c u H' := by
  obtain ⟨F', Fc, rel, cr, nd, ap, s2⟩ := h
  exact ⟨F', Fc, rel, cr, nd, ap, st.trans s2⟩
theorem PB.stp {F1 : List Addr} {H1 : Hp} (st : Stp F H F1 H1) (h : PB K mg R σ H1 F1 ρ' H') : PB K mg R σ H F ρ' H' := by
  obtain ⟨F', rel, s2⟩ := h
  exact ⟨F', rel, st.trans s2⟩
end

/-! ### readings -/
/-- what is asked where a step comes to r: P of what it gives -/
def Aim {α : Type} (X : Cx) (W : WX) (R : Av) (σ : L2.St) (H : Hp) (F : List Addr) (P : α → Env → Prop) : Res α → Prop
  | .ok c ρ' => P c ρ'
  | .ex x ρ' => ∀ cls d H', PX X.K X.mg R σ H F ρ' x cls d H' → W cls d σ H'
  | .no => False
/-- .. a cell for a value -/
abbrev AimV (X : Cx) (W : WX) (R : Av) (σ : L2.St) (H : Hp) (F : List Addr) (Q : VK) : Res Cell → Prop :=
  Aim X W R σ H F fun c ρ' => ∀ u H', PV X.K X.mg R σ H F ρ' c u H' → Q u H'
def tE (X : Cx) (W : WX) (r : Env → Res Cell) : TE := fun σ H Q => ∃ R ρ F, Rel X.K X.mg R ρ σ H F ∧ AimV X W R σ H F Q (r ρ)
def tT (X : Cx) (W : WX) (r : Env → Res Cell) : TT := fun σ H Q => ∃ R ρ F, Rel X.K X.mg R ρ σ H F ∧
  Aim X W R σ H F (fun c ρ' => ∃ k, c.frz.truth = some k ∧ ∀ H', PB X.K X.mg R σ H F ρ' H' → Q k H') (r ρ)
def tA (X : Cx) (W : WX) (r : Env → Res (List D)) : TA := fun σ H Q => ∃ R ρ F, Rel X.K X.mg R ρ σ H F ∧
  Aim X W R σ H F (fun ds ρ' => ∀ us H' F', Rel X.K X.mg R ρ' σ H' F' → VRs X.K X.mg (fun p => p ∈ F' ∨ R p) H' ds us → Stp F H F' H' → Q us H') (r ρ)
def tO (X : Cx) (W : WX) (r : Env → Res (Option Int)) : TO := fun σ H Q => ∃ R ρ F, Rel X.K X.mg R ρ σ H F ∧
  Aim X W R σ H F (fun o ρ' => ∀ H', PB X.K X.mg R σ H F ρ' H' → Q o H') (r ρ)

section
variable {X : Cx} {W : WX} {R : Av} {σ : L2.St} {H H1 : Hp} {F F1 : List Addr} {ρ ρ' : Env}
theorem Aim.imp {α : Type} {P P' : α → Env → Prop} {r : Res α} (h : Aim X W R σ H F P r) (hi : ∀ c ρ', P c ρ' → P' c ρ') : Aim X W R σ H F P' r := by
  cases r with
  | ok c ρ' => exact hi _ _ h
  | ex x ρ' => exact h
  | no => exact h
/-- .. from a later place -/
theorem Aim.stp {α : Type} {P : α → Env → Prop} {r : Res α} (st : Stp F H F1 H1) (h : Aim X W R σ H F P r) : Aim X W R σ H1 F1 P r := by
  cases r with
  | ok c ρ' => exact h
  | ex x ρ' => exact fun cls d H' q => h cls d H' (q.stp st)
  | no => exact h
theorem AimV.stp {Q : VK} {r : Res Cell} (st : Stp F H F1 H1) (h : AimV X W R σ H F Q r) : AimV X W R σ H1 F1 Q r := by
  have h' : Aim X W R σ H1 F1 (fun c ρ' => ∀ u H', PV X.K X.mg R σ H F ρ' c u H' → Q u H') r := Aim.stp st h
  exact h'.imp fun c ρ' z u H' q => z u H' (q.stp st)
/-- the first of two steps -/
theorem Aim.fst {α β : Type} {P : β → Env → Prop} {r : Res α} {f : α → Env → Res β} (h : Aim X W R σ H F P (r.bind f)) : Aim X W R σ H F (fun c ρ' => Aim X W R σ H F P (f c ρ')) r := by
  cases r with
  | ok c ρ' => exact h
  | ex x ρ' => exact h
  | no => exact h
theorem Aim.of {α : Type} {P : α → Env → Prop} {o : Option α} (h : Aim X W R σ H F P (Res.of o ρ)) : ∃ a, o = some a ∧ P a ρ := by
  cases o with
  | none => exact h.elim
  | some a => exact ⟨a, rfl, h⟩

/-- an operand, then more -/
theorem tE.bind {ra : Env → Res Cell} {f : Cell → Env → Res Cell} {Q Qa : VK} (rel : Rel X.K X.mg R ρ σ H F) (hm : AimV X W R σ H F Q ((ra ρ).bind f))
    (hk : ∀ c ρ1 x H1 F1, Rel X.K X.mg R ρ1 σ H1 F1 → VR X.K X.mg (fun p => p ∈ F1 ∨ R p) H1 c.frz x → Stp F H F1 H1 → AimV X W R σ H1 F1 Q (f c ρ1) → Qa x H1) : tE X W ra σ H Qa := by
  refine ⟨R, ρ, F, rel, (Aim.fst hm).imp fun c ρ1 h u H1 pv => ?_⟩
  obtain ⟨F1, rel1, v, st⟩ := pv.frz
  exact hk c ρ1 u H1 F1 rel1 v st (AimV.stp st h)
theorem tT.bind {ra : Env → Res Cell} {f : Cell → Env → Res Cell} {Q : VK} {Qa : Bool → Hp → Prop} (rel : Rel X.K X.mg R ρ σ H F) (hm : AimV X W R σ H F Q ((ra ρ).bind f))
    (hn : ∀ c ρ1, c.frz.truth = none → f c ρ1 = .no)
    (hk : ∀ c ρ1 k H1 F1, c.frz.truth = some k → Rel X.K X.mg R ρ1 σ H1 F1 → Stp F H F1 H1 → AimV X W R σ H1 F1 Q (f c ρ1) → Qa k H1) : tT X W ra σ H Qa := by
  refine ⟨R, ρ, F, rel, (Aim.fst hm).imp fun c ρ1 h => ?_⟩
  cases q : c.frz.truth with
  | none =>
    have h' := h
    rw [hn c ρ1 q] at h'
    exact h'.elim
  | some k =>
    refine ⟨k, rfl, fun H1 pb => ?_⟩
    obtain ⟨F1, rel1, st⟩ := pb
    exact hk c ρ1 k H1 F1 q rel1 st (AimV.stp st h)
theorem tA.bind {ra : Env → Res (List D)} {f : List D → Env → Res Cell} {Q : VK} {Qa : List V → Hp → Prop} (rel : Rel X.K X.mg R ρ σ H F) (hm : AimV X W R σ H F Q ((ra ρ).bind f))
    (hk : ∀ ds ρ1 xs H1 F1, Rel X.K X.mg R ρ1 σ H1 F1 → VRs X.K X.mg (fun p => p ∈ F1 ∨ R p) H1 ds xs → Stp F H F1 H1 → AimV X W R σ H1 F1 Q (f ds ρ1) → Qa xs H1) : tA X W ra σ H Qa := by
  refine ⟨R, ρ, F, rel, (Aim.fst hm).imp fun c ρ1 h us H1 F1 rel1 vs st => ?_⟩
  exact hk c ρ1 us H1 F1 rel1 vs st (AimV.stp st h)
theorem tO.bind {ra : Env → Res (Option Int)} {f : Option Int → Env → Res Cell} {Q : VK} {Qa : Option Int → Hp → Prop} (rel : Rel X.K X.mg R ρ σ H F) (hm : AimV X W R σ H F Q ((ra ρ).bind f))
    (hk : ∀ o ρ1 H1 F1, Rel X.K X.mg R ρ1 σ H1 F1 → Stp F H F1 H1 → AimV X W R σ H1 F1 Q (f o ρ1) → Qa o H1) : tO X W ra σ H Qa := by
  refine ⟨R, ρ, F, rel, (Aim.fst hm).imp fun c ρ1 h H1 pb => ?_⟩
  obtain ⟨F1, rel1, st⟩ := pb
  exact hk c ρ1 H1 F1 rel1 st (AimV.stp st h)
/-- the end: a result built here -/
theorem AimV.new {Q : VK} {c : Cell} {w : V} {H' : Hp} (rel : Rel X.K X.mg R ρ σ H F) (hm : AimV X W R σ H F Q (.ok c ρ)) (x : New X.K X.mg (fun p => p ∈ F ∨ R p) H c w H') : Q w H' := hm w H' (x.pv rel .refl)
theorem AimV.of {Q : VK} {o : Option Cell} {w : V} {H' : Hp} (rel : Rel X.K X.mg R ρ σ H F) (hm : AimV X W R σ H F Q (.of o ρ)) (hx : ∀ c, o = some c → New X.K X.mg (fun p => p ∈ F ∨ R p) H c w H') : Q w H' := by
  obtain ⟨c, e, h⟩ := Aim.of hm
  exact h w H' ((hx c e).pv rel .refl)
end

/-- the reading may be a stronger one -/
theorem _root_.L2.PE.impB {X : Cx} {e : Expr} {t t' : TE} (h : PE X e t) (hi : ∀ pins s σ H Q, Inv X pins σ H s → t' σ H Q → t σ H Q) : PE X e t' := ⟨fun pins s σ H Q I q => h.run pins s σ H Q I (hi pins s σ H Q I q)⟩
theorem _root_.L2.PT.impB {X : Cx} {e : Expr} {t t' : TT} (h : PT X e t) (hi : ∀ pins s σ H Q, Inv X pins σ H s → t' σ H Q → t σ H Q) : PT X e t' := ⟨fun pins s σ H Q I q => h.run pins s σ H Q I (hi pins s σ H Q I q)⟩

section
variable {X : Cx} {W : WX} {a b e : Expr} {pos : Pos} {ra rb rc : Env → Res Cell}
/-- an operator by values -/
def OpS (X : Cx) (f : Value → Value → Sem Value) (g : D → D → Option Cell) : Prop :=
  ∀ (pins : List (Addr × Obj)) (s : Shared) (σ : L2.St) (H : Hp) (A : Av) (x y : D) (vx vy : V) (v u : Value) (c : Cell) (Q : VK), Inv X pins σ H s → RelV vx v → RelV vy u → VR X.K X.mg A H x vx → VR X.K X.mg A H y vy → g x y = some c →
    (∀ w H', New X.K X.mg A H c w H' → Q w H') → wpAny (model X.prog X.w) X.A (f v u) (EP X pins σ Q) X.xe s
/-- two operands, then an operator -/
theorem run2 (ha : PE X a (tE X W ra)) (hb : PE X b (tE X W rb)) {g : D → D → Option Cell} {f : Value → Value → Sem Value} (ho : OpS X f g) {pins : List (Addr × Obj)} {s : Shared} {σ : L2.St} {H : Hp} {Q : VK} (I : Inv X pins σ H s)
    (h : tE X W (fun ρ => (ra ρ).bind fun x ρ => (rb ρ).bind fun y ρ => .of (g x.frz y.frz) ρ) σ H Q) :
    wpAny (model X.prog X.w) X.A (eval a X.env) (fun v s₁ => wpAny (model X.prog X.w) X.A (eval b X.env) (fun u s₂ => wpAny (model X.prog X.w) X.A (f v u) (EP X pins σ Q) X.xe s₂) X.xe s₁) X.xe s := by
  obtain ⟨R, ρ, F, rel, hm⟩ := h
  refine thn (ha.run pins s σ H (fun x H1 => ∃ d A1, VR X.K X.mg A1 H1 d x ∧ tE X W rb σ H1 fun y H2 => ∃ A2 d2 c, VR X.K X.mg A2 H2 d x ∧ VR X.K X.mg A2 H2 d2 y ∧ g d d2 = some c ∧ ∀ w H', New X.K X.mg A2 H2 c w H' → Q w H') I
    (tE.bind rel hm fun c ρ1 x H1 F1 rel1 v1 st1 hm1 => ⟨c.frz, _, v1, tE.bind rel1 hm1 fun c2 ρ2 y H2 F2 rel2 v2 st2 hm2 => ?_⟩)) fun v s1 ⟨x, H1, I1, r1, d, A1, v1, h1⟩ => ?_
  · obtain ⟨c, e, h⟩ := Aim.of hm2
    exact ⟨_, c2.frz, c, v1.evo (st2.evo R), v2, e, fun w H' nw => h w H' (nw.pv rel2 .refl)⟩
  · refine thn (hb.run pins s1 σ H1 _ I1 h1) fun u s2 ⟨y, H2, I2, r2, A2, d2, c, v1', v2, e, q⟩ => ?_
    exact ho pins s2 σ H2 A2 d d2 x y v u c Q I2 r1 r2 v1' v2 e q
theorem pe_bin {op : Operator} {g : D → D → Option Cell} (ho : OpS X (binaryOp op) g) (ha : PE X a (tE X W ra)) (hb : PE X b (tE X W rb)) : PE X (.BinOp a op b pos) (tE X W (fun ρ => (ra ρ).bind fun x ρ => (rb ρ).bind fun y ρ => .of (g x.frz y.frz) ρ)) :=
  ⟨fun pins s σ H Q I h => wpAny_BinOp (run2 ha hb ho I h)⟩
theorem pe_cmpE {op : CmpOp} {g : D → D → Option Cell} (ho : OpS X (compareOp op) g) (ha : PE X a (tE X W ra)) (hb : PE X b (tE X W rb)) (hm : behindInMarks op b = false) : PE X (.Compare a [op] [b] pos) (tE X W (fun ρ => (ra ρ).bind fun x ρ => (rb ρ).bind fun y ρ => .of (g x.frz y.frz) ρ)) :=
  ⟨fun pins s σ H Q I h => wpAny_Compare1 (run2 ha hb ho I h) hm⟩
end
end Bw

set_option Elab.async false
set_option linter.all false
set_option maxRecDepth 100000
/-! Bw4: operators by values. -/
namespace Bw
open PySem PySem.Spec PyProof.Rows L2

/-- what the rules lean on in a context -/
structure Gd (X : Cx) : Prop where
  calm : X.calm = true
  un : X.A.units + 65 < cLine
  nd : X.N.Nodup
theorem Gd.un64 {X : Cx} (g : Gd X) : X.A.units + 64 < cLine := by have := g.un; omega

section
variable {K : PySem.W.Frag} {mg : Str → Option Value} {A : Av} {H : Hp}
/-! ### data -/
mutual
theorem VR.dp : ∀ {d : D} {v : V} {n : Nat}, VR K mg A H d v → d.flat n = true → Dp K H v d.py ∧ d.py.canLay0 = true ∧ d.py.depth ≤ n
  | .non, v, n, h, _ => by
    obtain rfl : v = .non := h
    exact ⟨.non, rfl, Nat.zero_le _⟩
  | .bl b, v, n, h, _ => by
    obtain rfl : v = .bl b := h
    exact ⟨.bl b, rfl, Nat.zero_le _⟩
  | .int i, v, n, h, _ => by
    obtain rfl : v = .int i := h
    exact ⟨.int i, rfl, Nat.zero_le _⟩
  | .str s, v, n, h, _ => by
    obtain ⟨rfl, ok⟩ := h
    refine ⟨.str _, ?_, Nat.zero_le _⟩
    show PyData.strOk ⟨s.toArray⟩ = true
    unfold PyData.strOk
    simp only [List.all_toArray, List.all_eq_true, decide_eq_true_eq]
    exact ok.2
  | .tup ds, v, n, h, f => by
    cases n with
    | zero => cases f
    | succ n =>
      obtain ⟨p, ws, rfl, r, rs⟩ := h
      obtain ⟨a, b, c⟩ := VRs.dp rs (show D.flats n ds = true from f)
      exact ⟨.tup r.sq a, b, Nat.succ_le_succ c⟩
  | .lst ds, v, n, h, f => by
    cases n with
    | zero => cases f
    | succ n =>
      obtain ⟨p, ws, rfl, r, rs⟩ := h
      obtain ⟨a, b, c⟩ := VRs.dp rs (show D.flats n ds = true from f)
      exact ⟨.lst (.of r.1) a, b, Nat.succ_le_succ c⟩
  | .scr _, v, n, _, f => by cases n <;> cases f
  | .fn _, v, n, _, f => by cases n <;> cases f
  | .ty _, v, n, _, f => by cases n <;> cases f
theorem VRs.dp : ∀ {ds : List D} {ws : List V} {n : Nat}, VRs K mg A H ds ws → D.flats n ds = true → DpAll K H ws (D.pys ds) ∧ PyData.canLayAll0 (D.pys ds) = true ∧ PyData.depthAll (D.pys ds) ≤ n
  | [], ws, n, h, _ => by
    obtain rfl : ws = [] := h
    exact ⟨.nil, rfl, Nat.zero_le _⟩
  | d :: ds, ws, n, h, f => by
    obtain ⟨w, ws', rfl, r, rs⟩ := h
    have f' : (d.flat n && D.flats n ds) = true := f
    obtain ⟨f1, f2⟩ := Bool.and_eq_true_iff.mp f'
    obtain ⟨a1, b1, c1⟩ := VR.dp r f1
    obtain ⟨a2, b2, c2⟩ := VRs.dp rs f2
    refine ⟨.cons a1 a2, ?_, ?_⟩
    · show (d.py.canLay0 && PyData.canLayAll0 (D.pys ds)) = true
      rw [b1, b2]
      rfl
    · show max d.py.depth (PyData.depthAll (D.pys ds)) ≤ n
      exact Nat.max_le.mpr ⟨c1, c2⟩
end
theorem shaped_of {d : PyData} (b : d.canLay0 = true) (c : d.depth ≤ 41) : SeqAt.shaped d = true := by
  unfold SeqAt.shaped
  rw [b, decide_eq_true (Nat.le_trans c (by decide))]
  rfl
theorem arr_beq (s t : List Nat) : ((⟨s.toArray⟩ : Str) == ⟨t.toArray⟩) = (s == t) := by
  by_cases e : s = t
  · subst e
    simp
  · have h1 : (s == t) = false := by simpa using e
    have h2 : ¬ (⟨s.toArray⟩ : Str) = ⟨t.toArray⟩ := fun z => e (by
      have := Str.mk.inj z
      simpa using congrArg Array.toList this)
    rw [h1]
    simpa using h2
mutual
theorem D.eqv_py : ∀ (a b : D) (n m : Nat), a.flat n = true → b.flat m = true → a.eqv b = PyData.eqv a.py b.py
  | .non, b, n, m, _, f => by cases b <;> first | rfl | (cases m <;> cases f)
  | .bl x, b, n, m, _, f => by cases b <;> first | rfl | (cases m <;> cases f)
  | .int i, b, n, m, _, f => by cases b <;> first | rfl | (cases m <;> cases f)
  | .str s, b, n, m, _, f => by
    cases b with
    | str t => exact (arr_beq _ _).symm
    | _ => first | rfl | (cases m <;> cases f)
  | .tup as, b, n, m, f1, f2 => by
    cases b with
    | tup bs =>
      cases n with
      | zero => cases f1
      | succ n => cases m with
        | zero => cases f2
        | succ m => exact D.eqvs_py as bs n m f1 f2
    | _ => first | rfl | (cases m <;> cases f2)
  | .lst as, b, n, m, f1, f2 => by
    cases b with
    | lst bs =>
      cases n with
      | zero => cases f1
      | succ n => cases m with
        | zero => cases f2
        | succ m => exact D.eqvs_py as bs n m f1 f2
    | _ => first | rfl | (cases m <;> cases f2)
  | .scr _, b, n, m, f, _ => by cases n <;> cases f
  | .fn _, b, n, m, f, _ => by cases n <;> cases f
  | .ty _, b, n, m, f, _ => by cases n <;> cases f
theorem D.eqvs_py : ∀ (as bs : List D) (n m : Nat), D.flats n as = true → D.flats m bs = true → D.eqvs as bs = PyData.eqvAll (D.pys as) (D.pys bs)
  | [], [], _, _, _, _ => rfl
  | [], _ :: _, _, _, _, _ => rfl
  | _ :: _, [], _, _, _, _ => rfl
  | a :: as, b :: bs, n, m, f1, f2 => by
    obtain ⟨a1, a2⟩ := Bool.and_eq_true_iff.mp (show (a.flat n && D.flats n as) = true from f1)
    obtain ⟨b1, b2⟩ := Bool.and_eq_true_iff.mp (show (b.flat m && D.flats m bs) = true from f2)
    show (a.eqv b && D.eqvs as bs) = (PyData.eqv a.py b.py && PyData.eqvAll (D.pys as) (D.pys bs))
    rw [D.eqv_py a b n m a1 b1, D.eqvs_py as bs n m a2 b2]
end
theorem D.any_py {d : D} {n m : Nat} (fd : d.flat n = true) : ∀ (ds : List D), D.flats m ds = true → (ds.any fun z => z.eqv d) = (D.pys ds).any fun z => PyData.eqv z d.py
  | [], _ => rfl
  | a :: as, f => by
    obtain ⟨a1, a2⟩ := Bool.and_eq_true_iff.mp (show (a.flat m && D.flats m as) = true from f)
    show (a.eqv d || as.any fun z => z.eqv d) = (PyData.eqv a.py d.py || (D.pys as).any fun z => PyData.eqv z d.py)
    rw [D.eqv_py a d m n a1 fd, D.any_py fd as a2]

/-! ### truth -/
theorem VR.tru {d : D} {v : V} {k : Bool} (h : VR K mg A H d v) (e : d.truth = some k) : TruV K v H k := by
  cases d with
  | non =>
    obtain rfl : v = .non := h
    exact (Option.some.inj e).symm
  | bl b =>
    obtain rfl : v = .bl b := h
    exact (Option.some.inj e).symm
  | int i =>
    obtain rfl : v = .int i := h
    exact (Option.some.inj e).symm
  | str s =>
    obtain ⟨rfl, ok⟩ := h
    refine ⟨by rw [lim_eq]; simpa [Str.length] using ok.1, ?_⟩
    have e' : some (!s.isEmpty) = some k := e
    rw [← Option.some.inj e']
    cases s with
    | nil => rfl
    | cons c r =>
      show true = (((((c :: r).toArray).size : Nat) : Int) != 0)
      rw [List.size_toArray, List.length_cons]
      symm
      simp only [bne_iff_ne, ne_eq]
      omega
  | tup ds =>
    obtain ⟨p, ws, rfl, r, rs⟩ := h
    refine .inr (.inl ⟨ws, r.sq, ?_⟩)
    have e' : some (!ds.isEmpty) = some k := e
    rw [← Option.some.inj e']
    cases ds with
    | nil => obtain rfl : ws = [] := rs; rfl
    | cons d ds => obtain ⟨w, ws', rfl, _⟩ := rs; rfl
  | lst ds =>
    obtain ⟨p, ws, rfl, r, rs⟩ := h
    refine .inl ⟨ws, .of r.1, ?_⟩
    have e' : some (!ds.isEmpty) = some k := e
    rw [← Option.some.inj e']
    cases ds with
    | nil => obtain rfl : ws = [] := rs; rfl
    | cons d ds => obtain ⟨w, ws', rfl, _⟩ := rs; rfl
  | scr ns =>
    obtain ⟨p, rfl, r⟩ := h
    refine .inl ⟨_, r.sq, ?_⟩
    have e' : some (!ns.isEmpty) = some k := e
    rw [← Option.some.inj e']
    cases ns <;> rfl
  | fn x => cases e
  | ty n => cases e
end
end Bw

set_option Elab.async false
set_option linter.all false
set_option maxRecDepth 100000
/-! Bw5: the operators' rules. -/
namespace Bw
open PySem PySem.Spec PyProof.Rows L2

theorem str_cat (s t : List Nat) : ((⟨s.toArray⟩ : Str) ++ ⟨t.toArray⟩) = ⟨(s ++ t).toArray⟩ := by
  apply TL.ext_tl
  rw [TL.tl_append]
theorem str_len (s : List Nat) : (⟨s.toArray⟩ : Str).length = s.length := by simp [Str.length]
theorem okS.app {s t : List Nat} (a : okS s) (b : okS t) (h : s.length + t.length ≤ LIM) : okS (s ++ t) :=
  ⟨by rw [List.length_append]; exact h, fun c hc => (List.mem_append.mp hc).elim (a.2 c) (b.2 c)⟩
theorem okS.sub {s t : List Nat} (a : okS s) (hl : t.length ≤ s.length) (hm : ∀ c ∈ t, c ∈ s) : okS t := ⟨Nat.le_trans hl a.1, fun c hc => a.2 c (hm c hc)⟩

section
variable {X : Cx}
theorem opS_of_int {f : Value → Value → Sem Value} {C : Int → Int → Prop} {h : Int → Int → V} {g : D → D → Option Cell} (ho : OpR X f (rI C h))
    (hg : ∀ x y c, g x y = some c → ∃ i j, x = .int i ∧ y = .int j ∧ C i j ∧ ∃ d, c = .val d ∧ ∀ A H, VR X.K X.mg A H d (h i j)) : OpS X f g := by
  intro pins s σ H A x y vx vy v u c Q I rx ry hx hy e hq
  obtain ⟨i, j, rfl, rfl, hc, d, rfl, hv⟩ := hg x y c e
  obtain rfl : vx = .int i := hx
  obtain rfl : vy = .int j := hy
  exact ho pins s σ H _ _ v u Q I rx ry ⟨i, j, rfl, rfl, hc, hq _ _ (.val (hv A H))⟩
theorem opS_of_int0 {f : Value → Value → Sem Value} {h : Int → Int → V} {g : D → D → Option Cell} (ho : OpR X f (rI0 h))
    (hg : ∀ x y c, g x y = some c → ∃ i j, x = .int i ∧ y = .int j ∧ ∃ d, c = .val d ∧ ∀ A H, VR X.K X.mg A H d (h i j)) : OpS X f g := by
  intro pins s σ H A x y vx vy v u c Q I rx ry hx hy e hq
  obtain ⟨i, j, rfl, rfl, d, rfl, hv⟩ := hg x y c e
  obtain rfl : vx = .int i := hx
  obtain rfl : vy = .int j := hy
  exact ho pins s σ H _ _ v u Q I rx ry ⟨i, j, rfl, rfl, hq _ _ (.val (hv A H))⟩
theorem ops_add : OpS X (binaryOp .Add) Op.add.run := by
  intro pins s σ H A x y vx vy v u c Q I rx ry hx hy e hq
  cases x with
  | int i =>
    cases y with
    | int j =>
      cases e
      obtain rfl : vx = .int i := hx
      obtain rfl : vy = .int j := hy
      exact op_add pins s σ H _ _ v u Q I rx ry ⟨i, j, rfl, rfl, hq _ _ (.val rfl)⟩
    | _ => cases e
  | str a =>
    cases y with
    | str b =>
      obtain ⟨rfl, o1⟩ := hx
      obtain ⟨rfl, o2⟩ := hy
      have e' : (if a.length + b.length ≤ LIM then some (Cell.val (.str (a ++ b))) else none) = some c := e
      split at e'
      · rename_i hl
        cases e'
        refine op_add_str pins s σ H _ _ v u Q I rx ry ⟨_, _, rfl, rfl, by rw [lim_eq, str_len, str_len]; exact hl, hq _ _ (.val ⟨?_, o1.app o2 hl⟩)⟩
        rw [str_cat]
      · cases e'
    | _ => cases e
  | tup a =>
    cases y with
    | tup b =>
      obtain ⟨p, ws, rfl, r1, rs1⟩ := hx
      obtain ⟨q, us, rfl, r2, rs2⟩ := hy
      have e' : (if a.length + b.length ≤ LIM then some (Cell.val (.tup (a ++ b))) else none) = some c := e
      split at e'
      · rename_i hl
        cases e'
        refine op_catA pins s σ H _ _ v u Q I rx ry ⟨p, q, ws, us, rfl, rfl, r1.sq, r2.sq, by rw [lim_eq, ← rs1.length, ← rs2.length]; exact hl, fun z => ?_, fun _ z => ?_, fun _ _ t nt => ?_⟩
        · subst z
          cases a with
          | nil => exact hq _ _ (.val ⟨q, us, rfl, r2, rs2⟩)
          | cons d ds => obtain ⟨_, _, z, _⟩ := rs1; cases z
        · subst z
          cases b with
          | nil =>
            rw [List.append_nil] at hq
            exact hq _ _ (.val ⟨p, ws, rfl, r1, rs1⟩)
          | cons d ds => obtain ⟨_, _, z, _⟩ := rs2; cases z
        · exact hq _ _ (.tup nt (rs1.append rs2))
      · cases e'
    | _ => cases e
  | lst a =>
    cases y with
    | lst b =>
      obtain ⟨p, ws, rfl, r1, rs1⟩ := hx
      obtain ⟨q, us, rfl, r2, rs2⟩ := hy
      have e' : (if a.length + b.length ≤ LIM then some (Cell.own (a ++ b)) else none) = some c := e
      split at e'
      · rename_i hl
        cases e'
        exact op_cat pins s σ H _ _ v u Q I rx ry ⟨p, q, ws, us, rfl, rfl, r1.1, r2.1, by rw [lim_eq, ← rs1.length, ← rs2.length]; exact hl, fun t nt => hq _ _ (.own nt (rs1.append rs2))⟩
      · cases e'
    | _ => cases e
  | _ => cases y <;> cases e
theorem ops_sub : OpS X (binaryOp .Sub) Op.sub.run := opS_of_int0 op_sub fun x y c e => by
  cases x <;> cases y <;> first | (cases e; exact ⟨_, _, rfl, rfl, _, rfl, fun _ _ => rfl⟩) | cases e
theorem smallI_ok {i : Int} (h : smallI i = true) : -(2 ^ 64) < i ∧ i < 2 ^ 64 := by
  unfold smallI at h
  simpa using h
theorem ops_mul : OpS X (binaryOp .Mult) Op.mul.run := opS_of_int op_mul fun x y c e => by
  cases x with
  | int i => cases y with
    | int j =>
      have e' : (if smallI i || smallI j then some (Cell.val (.int (i * j))) else none) = some c := e
      split at e'
      · rename_i hs
        cases e'
        refine ⟨_, _, rfl, rfl, ?_, _, rfl, fun _ _ => rfl⟩
        rcases Bool.or_eq_true_iff.mp hs with z | z
        · exact .inl (smallI_ok z)
        · exact .inr (smallI_ok z)
      · cases e'
    | _ => cases e
  | _ => cases y <;> cases e
theorem ops_fdiv : OpS X (binaryOp .FloorDiv) Op.fdiv.run := opS_of_int op_fdiv fun x y c e => by
  cases x with
  | int i => cases y with
    | int j =>
      have e' : (if 0 < j ∧ j < 1073741824 then some (Cell.val (.int (i / j))) else none) = some c := e
      split at e'
      · rename_i hs
        cases e'
        exact ⟨_, _, rfl, rfl, hs, _, rfl, fun _ _ => rfl⟩
      · cases e'
    | _ => cases e
  | _ => cases y <;> cases e
theorem ops_mod : OpS X (binaryOp .Mod) Op.mod.run := opS_of_int op_mod fun x y c e => by
  cases x with
  | int i => cases y with
    | int j =>
      have e' : (if 0 < j then some (Cell.val (.int (i % j))) else none) = some c := e
      split at e'
      · rename_i hs
        cases e'
        exact ⟨_, _, rfl, rfl, hs, _, rfl, fun _ _ => rfl⟩
      · cases e'
    | _ => cases e
  | _ => cases y <;> cases e
theorem ops_pow : OpS X (binaryOp .Pow) Op.pow.run := opS_of_int op_pow fun x y c e => by
  cases x with
  | int i => cases y with
    | int j =>
      have e' : (if 0 ≤ j ∧ j ≤ 1000000 ∧ i.natAbs < 2 ^ 64 then some (Cell.val (.int (i ^ j.toNat))) else none) = some c := e
      split at e'
      · rename_i hs
        cases e'
        exact ⟨_, _, rfl, rfl, hs, _, rfl, fun _ _ => rfl⟩
      · cases e'
    | _ => cases e
  | _ => cases y <;> cases e
theorem ops_shl : OpS X (binaryOp .LShift) Op.shl.run := opS_of_int op_shl fun x y c e => by
  cases x with
  | int i => cases y with
    | int j =>
      have e' : (if 0 ≤ j ∧ j ≤ 1000000 ∧ i.natAbs < 2 ^ 64 then some (Cell.val (.int (i * 2 ^ j.toNat))) else none) = some c := e
      split at e'
      · rename_i hs
        cases e'
        exact ⟨_, _, rfl, rfl, hs, _, rfl, fun _ _ => rfl⟩
      · cases e'
    | _ => cases e
  | _ => cases y <;> cases e
def Op.py : Op → Operator
  | .add => .Add
  | .sub => .Sub
  | .mul => .Mult
  | .fdiv => .FloorDiv
  | .mod => .Mod
  | .pow => .Pow
  | .shl => .LShift
theorem ops_op (o : Op) : OpS X (binaryOp o.py) o.run := by
  cases o
  · exact ops_add
  · exact ops_sub
  · exact ops_mul
  · exact ops_fdiv
  · exact ops_mod
  · exact ops_pow
  · exact ops_shl

/-! ### comparisons -/
/-- a comparison by values -/
def CmS (X : Cx) (op : CmpOp) (g : D → D → Option Bool) : Prop := OpS X (compareOp op) fun a b => (g a b).map fun k => .val (.bl k)
theorem cmS_of {op : CmpOp} {g : D → D → Option Bool} (h : ∀ (pins : List (Addr × Obj)) (s : Shared) (σ : L2.St) (H : Hp) (A : Av) (x y : D) (vx vy : V) (v u : Value) (k : Bool) (Q : VK), Inv X pins σ H s → RelV vx v → RelV vy u → VR X.K X.mg A H x vx → VR X.K X.mg A H y vy → g x y = some k →
    Q (.bl k) H → wpAny (model X.prog X.w) X.A (compareOp op v u) (EP X pins σ Q) X.xe s) : CmS X op g := by
  intro pins s σ H A x y vx vy v u c Q I rx ry hx hy e hq
  cases q : g x y with
  | none => simp only [q] at e; cases e
  | some k =>
    simp only [q] at e
    cases e
    exact h pins s σ H A x y vx vy v u k Q I rx ry hx hy q (hq _ _ (.val rfl))
theorem cms_int {op : CmpOp} {p : Int → Int → Bool} {g : D → D → Option Bool} (ho : OpR X (compareOp op) (rI0 fun i j => .bl (p i j)))
    (hg : ∀ x y k, g x y = some k → ∃ i j, x = .int i ∧ y = .int j ∧ k = p i j) : CmS X op g := cmS_of fun pins s σ H A x y vx vy v u k Q I rx ry hx hy e q => by
  obtain ⟨i, j, rfl, rfl, rfl⟩ := hg x y k e
  obtain rfl : vx = .int i := hx
  obtain rfl : vy = .int j := hy
  exact ho pins s σ H _ _ v u Q I rx ry ⟨i, j, rfl, rfl, q⟩
theorem flat2 {a b : D} {k : Bool} {o : Bool} (e : (if (a.flat 40 && b.flat 40) = true then some o else none) = some k) : a.flat 40 = true ∧ b.flat 40 = true ∧ o = k := by
  split at e
  · rename_i h
    obtain ⟨h1, h2⟩ := Bool.and_eq_true_iff.mp h
    exact ⟨h1, h2, Option.some.inj e⟩
  · cases e
theorem cms_eq (g : Gd X) : CmS X .Eq Cm.eq.run := cmS_of fun pins s σ H A x y vx vy v u k Q I rx ry hx hy e q => by
  have e' : (if (x.flat 40 && y.flat 40) = true then some (x.eqv y) else none) = some k := by
    cases x <;> exact e
  obtain ⟨f1, f2, rfl⟩ := flat2 e'
  obtain ⟨a1, b1, c1⟩ := VR.dp hx f1
  obtain ⟨a2, b2, c2⟩ := VR.dp hy f2
  refine op_eqD g.un64 pins s σ H _ _ v u Q I rx ry ⟨_, _, a1, a2, shaped_of b1 (by omega), shaped_of b2 (by omega), ?_⟩
  rw [← D.eqv_py x y 40 40 f1 f2]
  exact q
theorem cms_ne (g : Gd X) : CmS X .NotEq Cm.ne.run := cmS_of fun pins s σ H A x y vx vy v u k Q I rx ry hx hy e q => by
  have e' : (if (x.flat 40 && y.flat 40) = true then some (!x.eqv y) else none) = some k := by
    cases x <;> exact e
  obtain ⟨f1, f2, rfl⟩ := flat2 e'
  obtain ⟨a1, b1, c1⟩ := VR.dp hx f1
  obtain ⟨a2, b2, c2⟩ := VR.dp hy f2
  refine op_neD g.un64 pins s σ H _ _ v u Q I rx ry ⟨_, _, a1, a2, shaped_of b1 (by omega), shaped_of b2 (by omega), ?_⟩
  rw [← D.eqv_py x y 40 40 f1 f2]
  exact q
theorem cms_lt : CmS X .Lt Cm.lt.run := cmS_of fun pins s σ H A x y vx vy v u k Q I rx ry hx hy e q => by
  cases x with
  | int i => cases y with
    | int j =>
      cases e
      obtain rfl : vx = .int i := hx
      obtain rfl : vy = .int j := hy
      exact op_lt pins s σ H _ _ v u Q I rx ry ⟨i, j, rfl, rfl, q⟩
    | _ => cases e
  | str a => cases y with
    | str b =>
      cases e
      obtain ⟨rfl, _⟩ := hx
      obtain ⟨rfl, _⟩ := hy
      exact op_lt_str pins s σ H _ _ v u Q I rx ry ⟨_, _, rfl, rfl, q⟩
    | _ => cases e
  | _ => cases y <;> cases e
theorem cms_le : CmS X .LtE Cm.le.run := cms_int op_le fun x y k e => by
  cases x <;> cases y <;> first | (cases e; exact ⟨_, _, rfl, rfl, rfl⟩) | cases e
theorem cms_gt : CmS X .Gt Cm.gt.run := cms_int op_gt fun x y k e => by
  cases x <;> cases y <;> first | (cases e; exact ⟨_, _, rfl, rfl, rfl⟩) | cases e
theorem cms_ge : CmS X .GtE Cm.ge.run := cms_int op_ge fun x y k e => by
  cases x <;> cases y <;> first | (cases e; exact ⟨_, _, rfl, rfl, rfl⟩) | cases e
theorem flatIn {d : D} {ds : List D} {k : Bool} {o : Bool} (e : (if (d.flat 40 && D.flats 40 ds) = true then some o else none) = some k) : d.flat 40 = true ∧ D.flats 40 ds = true ∧ o = k := by
  split at e
  · rename_i h
    obtain ⟨h1, h2⟩ := Bool.and_eq_true_iff.mp h
    exact ⟨h1, h2, Option.some.inj e⟩
  · cases e
/-- what in comes to: n, its negation -/
theorem run_in (g : Gd X) {pins : List (Addr × Obj)} {s : Shared} {σ : L2.St} {H : Hp} {A : Av} {x y : D} {vx vy : V} {v u : Value} {k : Bool} {Q : VK} (I : Inv X pins σ H s) (rx : RelV vx v) (ry : RelV vy u) (hx : VR X.K X.mg A H x vx) (hy : VR X.K X.mg A H y vy) (e : x.isin y = some k) :
    (Q (.bl k) H → wpAny (model X.prog X.w) X.A (compareOp .In v u) (EP X pins σ Q) X.xe s) ∧ (Q (.bl (!k)) H → wpAny (model X.prog X.w) X.A (compareOp .NotIn v u) (EP X pins σ Q) X.xe s) := by
  have key : ∀ ds, (y = .tup ds ∨ y = .lst ds) → (if (x.flat 40 && D.flats 40 ds) = true then some (ds.any fun z => z.eqv x) else none) = some k → 
      (Q (.bl k) H → wpAny (model X.prog X.w) X.A (compareOp .In v u) (EP X pins σ Q) X.xe s) ∧ (Q (.bl (!k)) H → wpAny (model X.prog X.w) X.A (compareOp .NotIn v u) (EP X pins σ Q) X.xe s) := by
    intro ds hds e'
    obtain ⟨f1, f2, rfl⟩ := flatIn e'
    obtain ⟨a1, b1, c1⟩ := VR.dp hx f1
    obtain ⟨as, r1⟩ := Dp.reads I _ vx v a1 rx
    have hu : X.A.units + 1 + min (PyData.depthAll (D.pys ds)) x.py.depth < cLine := by
      have := g.un
      have := Nat.min_le_right (PyData.depthAll (D.pys ds)) x.py.depth
      omega
    rw [D.any_py f1 ds f2]
    rcases hds with rfl | rfl
    · obtain ⟨p, ws, rfl, r, rs⟩ := hy
      obtain ⟨a2, b2, c2⟩ := VRs.dp rs f2
      obtain ⟨bs, r2⟩ := Dp.reads I (.tuple (D.pys ds)) _ u (.tup r.sq a2) ry
      exact ⟨fun q => SeqAt.in_tuple_reads r2 r1 b2 b1 hu ⟨.bl _, H, I, rfl, q⟩, fun q => SeqAt.notIn_tuple_reads r2 r1 b2 b1 hu ⟨.bl _, H, I, rfl, q⟩⟩
    · obtain ⟨p, ws, rfl, r, rs⟩ := hy
      obtain ⟨a2, b2, c2⟩ := VRs.dp rs f2
      obtain ⟨bs, r2⟩ := Dp.reads I (.list (D.pys ds)) _ u (.lst (.of r.1) a2) ry
      exact ⟨fun q => SeqAt.in_list_reads r2 r1 b2 b1 hu ⟨.bl _, H, I, rfl, q⟩, fun q => SeqAt.notIn_list_reads r2 r1 b2 b1 hu ⟨.bl _, H, I, rfl, q⟩⟩
  cases y with
  | tup ds => exact key ds (.inl rfl) (by cases x <;> exact e)
  | lst ds => exact key ds (.inr rfl) (by cases x <;> exact e)
  | str b =>
    cases x with
    | str a =>
      obtain ⟨rfl, _⟩ := hx
      obtain ⟨rfl, _⟩ := hy
      have e' : some (subs a b) = some k := e
      have e2 := Option.some.inj e'
      have e3 : (!(Builtin.Str.occurrences (⟨b.toArray⟩ : Str) ⟨a.toArray⟩ 0 (⟨b.toArray⟩ : Str).length 1).isEmpty) = k := by
        rw [str_len]
        exact e2
      exact ⟨fun q => op_in_str pins s σ H _ _ v u Q I rx ry ⟨_, _, rfl, rfl, by rw [e3]; exact q⟩, fun q => op_notin_str pins s σ H _ _ v u Q I rx ry ⟨_, _, rfl, rfl, by rw [e3]; exact q⟩⟩
    | _ => cases e
  | _ => cases x <;> cases e
theorem cms_in (g : Gd X) : CmS X .In Cm.isin.run := cmS_of fun pins s σ H A x y vx vy v u k Q I rx ry hx hy e q => (run_in g I rx ry hx hy (show x.isin y = some k by cases x <;> exact e)).1 q
theorem not_of_map {o : Option Bool} {k : Bool} (e : o.map (!·) = some k) : ∃ j, o = some j ∧ k = !j := by
  cases o with
  | none => cases e
  | some j => exact ⟨j, rfl, (Option.some.inj e).symm⟩
theorem cms_notin (g : Gd X) : CmS X .NotIn Cm.notin.run := cmS_of fun pins s σ H A x y vx vy v u k Q I rx ry hx hy e q => by
  obtain ⟨j, e1, rfl⟩ := not_of_map (show (x.isin y).map (!·) = some k by cases x <;> exact e)
  exact (run_in g I rx ry hx hy e1).2 q
theorem run_is {pins : List (Addr × Obj)} {s : Shared} {σ : L2.St} {H : Hp} {A : Av} {x y : D} {vx vy : V} {v u : Value} {k : Bool} {Q : VK} (I : Inv X pins σ H s) (rx : RelV vx v) (ry : RelV vy u) (hx : VR X.K X.mg A H x vx) (hy : VR X.K X.mg A H y vy) (e : x.isb y = some k) :
    (Q (.bl k) H → wpAny (model X.prog X.w) X.A (compareOp .Is v u) (EP X pins σ Q) X.xe s) ∧ (Q (.bl (!k)) H → wpAny (model X.prog X.w) X.A (compareOp .IsNot v u) (EP X pins σ Q) X.xe s) := by
  cases y with
  | non =>
    obtain rfl : vy = .non := hy
    have hk : k = decide (vx = .non) := by
      cases x with
      | non => obtain rfl : vx = .non := hx; cases e; rfl
      | bl b => obtain rfl : vx = .bl b := hx; cases e; rfl
      | int i => obtain rfl : vx = .int i := hx; cases e; rfl
      | str i => obtain ⟨rfl, _⟩ := hx; cases e; rfl
      | tup i => obtain ⟨p, ws, rfl, _⟩ := hx; cases e; rfl
      | lst i => obtain ⟨p, ws, rfl, _⟩ := hx; cases e; rfl
      | _ => cases e
    rw [hk]
    exact ⟨fun q => op_isN pins s σ H _ _ v u Q I rx ry ⟨rfl, q⟩, fun q => op_notN pins s σ H _ _ v u Q I rx ry ⟨rfl, q⟩⟩
  | bl b =>
    cases x with
    | bl a =>
      obtain rfl : vx = .bl a := hx
      obtain rfl : vy = .bl b := hy
      have e' : (a == b) = k := Option.some.inj e
      have hk : k = decide (a = b) := by rw [← e', Bool.beq_eq_decide_eq]
      rw [hk]
      exact ⟨fun q => op_isBl pins s σ H _ _ v u Q I rx ry ⟨a, b, rfl, rfl, q⟩, fun q => op_notBl pins s σ H _ _ v u Q I rx ry ⟨a, b, rfl, rfl, q⟩⟩
    | _ => cases e
  | _ => cases x <;> cases e
theorem cms_is : CmS X .Is Cm.is.run := cmS_of fun pins s σ H A x y vx vy v u k Q I rx ry hx hy e q => (run_is I rx ry hx hy (show x.isb y = some k by cases x <;> exact e)).1 q
theorem cms_isnot : CmS X .IsNot Cm.isnot.run := cmS_of fun pins s σ H A x y vx vy v u k Q I rx ry hx hy e q => by
  obtain ⟨j, e1, rfl⟩ := not_of_map (show (x.isb y).map (!·) = some k by cases x <;> exact e)
  exact (run_is I rx ry hx hy e1).2 q
def Cm.py : Cm → CmpOp
  | .eq => .Eq
  | .ne => .NotEq
  | .lt => .Lt
  | .le => .LtE
  | .gt => .Gt
  | .ge => .GtE
  | .isin => .In
  | .notin => .NotIn
  | .is => .Is
  | .isnot => .IsNot
theorem cms_op (g : Gd X) (o : Cm) : CmS X o.py o.run := by
  cases o
  · exact cms_eq g
  · exact cms_ne g
  · exact cms_lt
  · exact cms_le
  · exact cms_gt
  · exact cms_ge
  · exact cms_in g
  · exact cms_notin g
  · exact cms_is
  · exact cms_isnot
end
end Bw

set_option Elab.async false
set_option linter.all false
set_option maxRecDepth 100000
/-! Bw6: the rules of expressions. -/
namespace Bw
open PySem PySem.Spec PyProof.Rows L2

section
variable {K : PySem.W.Frag} {mg : Str → Option Value} {R : Av} {σ : L2.St} {H : Hp} {ρ : Env} {F : List Addr}
/-! ### names -/
theorem Rel.val {i : Nat} {d : D} (rel : Rel K mg R ρ σ H F) (e : ρ.get i = some (.val d)) : ∃ v, σ[i]? = some (some v) ∧ VR K mg (fun p => p ∈ F ∨ R p) H d v := by
  have hi : ρ[i]? = some (some (.val d)) := by
    unfold Env.get at e
    cases q : ρ[i]? with
    | none => rw [q] at e; cases e
    | some o => rw [q] at e; cases o with
      | none => cases e
      | some c => exact congrArg some e
  obtain ⟨c, v, Fi, G, e1, e2, pm, s, _⟩ := rel.er.at i (List.getElem?_eq_some_iff.mp hi).1
  rw [hi] at e1
  cases e1
  cases v with
  | none => exact s.elim
  | some v => exact ⟨v, e2, s.2⟩
theorem Env.get_eq {i : Nat} {c : Cell} (e : ρ.get i = some c) : ρ[i]? = some (some c) := by
  unfold Env.get at e
  cases q : ρ[i]? with
  | none => rw [q] at e; cases e
  | some o => rw [q] at e; cases o with
    | none => cases e
    | some c => exact congrArg some e
/-- any cell, seen as a value for a moment -/
theorem Rel.peek {i : Nat} {c : Cell} (rel : Rel K mg R ρ σ H F) (e : ρ.get i = some c) : ∃ v, σ[i]? = some (some v) ∧ ∃ A : Av, VR K mg A H c.frz v := by
  have hi := Env.get_eq e
  obtain ⟨c', v, Fi, G, e1, e2, pm, s, _⟩ := rel.er.at i (List.getElem?_eq_some_iff.mp hi).1
  rw [hi] at e1
  cases e1
  cases v with
  | none => exact s.elim
  | some v => exact ⟨v, e2, fun _ => False, CRel.frz (fun p z => z.elim) (fun p _ z => z) s⟩
/-- a name gives its cell away -/
theorem Rel.take {i : Nat} {c : Cell} (rel : Rel K mg R ρ σ H F) (e : ρ.get i = some c) : ∃ v, σ[i]? = some (some v) ∧ PV K mg R σ H F (ρ.put i none) c v H := by
  have hi := Env.get_eq e
  obtain ⟨c', v, Fi, G, e1, e2, pm, s, put⟩ := rel.er.at i (List.getElem?_eq_some_iff.mp hi).1
  rw [hi] at e1
  cases e1
  cases v with
  | none => exact s.elim
  | some v =>
    have nd : (Fi ++ G).Nodup := pm.nodup_iff.mp rel.nd
    obtain ⟨n1, n2, n3⟩ := List.nodup_append.mp nd
    have mF : ∀ p, p ∈ F ↔ p ∈ Fi ∨ p ∈ G := fun p => by rw [pm.mem_iff, List.mem_append]
    have hA : ∀ p, (p ∈ G ∨ (p ∈ Fi ∨ R p)) → (p ∈ F ∨ R p) := fun p z => by
      rcases z with z | z | z
      · exact .inl ((mF p).mpr (.inr z))
      · exact .inl ((mF p).mpr (.inl z))
      · exact .inr z
    obtain ⟨F', pm', er'⟩ := put (A' := fun p => p ∈ G ∨ (p ∈ Fi ∨ R p)) (H' := H) none (some v) [] ⟨fun _ _ q _ => q, fun b q => .inl (hA b q)⟩ (fun _ _ _ q => q) rfl
    rw [List.nil_append] at pm'
    have es : σ.set i (some v) = σ := by
      apply List.ext_getElem?
      intro j
      by_cases hj : i = j
      · subst hj
        rw [List.getElem?_set_self (List.getElem?_eq_some_iff.mp e2).1, e2]
      · rw [List.getElem?_set_ne hj]
    rw [es] at er'
    have mF' : ∀ p, p ∈ F' ↔ p ∈ G := fun p => pm'.mem_iff
    refine ⟨v, e2, F', Fi, ⟨?_, pm'.nodup_iff.mpr n2, fun p hp z => ?_, fun p z => ?_⟩, ?_, n1, fun p hp => rel.ap p ((mF p).mpr (.inl hp)), ⟨fun _ _ q _ => q, fun _ q => q, fun b hb => .inl ?_⟩⟩
    · refine er'.evo ⟨fun _ _ q _ => q, fun b q => .inl ?_⟩ fun _ _ _ q => q
      rcases q with q | q
      · exact .inl ((mF' b).mp q)
      · exact .inr q
    · have hg := (mF' p).mp hp
      rcases z with z | z
      · exact n3 p z p hg rfl
      · exact rel.ap p ((mF p).mpr (.inr hg)) z
    · rcases z with z | z
      · exact rel.er.live p ((mF p).mpr (.inl z))
      · exact rel.lv p z
    · refine CRel.evo ⟨fun _ _ q _ => q, fun b q => .inl ?_⟩ (fun _ _ _ q => q) s
      rcases q with q | q
      · exact .inl ((mF b).mpr (.inr ((mF' b).mp q)))
      · rcases q with q | q
        · exact .inl ((mF b).mpr (.inl q))
        · exact .inr q
    · rcases List.mem_append.mp hb with z | z
      · exact (mF b).mpr (.inl z)
      · exact (mF b).mpr (.inr ((mF' b).mp z))
end

def cstD : Const → Option D
  | .none => some .non
  | .bool b => some (.bl b)
  | .int i => some (.int i)
  | .str s => if s.cps.toList.length ≤ LIM ∧ s.cps.toList.all (fun c => decide (c < 0x110000)) then some (.str s.cps.toList) else none
  | _ => none

section
variable {X : Cx} {W : WX} {a b e : Expr} {pos p : Pos} {ra rb rc : Env → Res Cell} {rs : Env → Res (List D)} {R : Av} {σ : L2.St} {H : Hp} {ρ : Env} {F : List Addr}
theorem pe_val {t : TE} {d : D} (h : PE X e t) (hv : ∀ σ H Q, (∀ v, (∀ A, VR X.K X.mg A H d v) → Q v H) → t σ H Q) : PE X e (tE X W (fun ρ => .ok (.val d) ρ)) :=
  h.impB fun pins s σ H Q I ⟨R, ρ, F, rel, hm⟩ => hv σ H Q fun v r => hm v H ((New.val (r _)).pv rel .refl)
theorem pe_cstE {c : Const} {k : Nat} {d : D} (h : cstD c = some d) : PE X (.Constant c k pos) (tE X W (fun ρ => .ok (.val d) ρ)) := by
  cases c with
  | none => cases h; exact pe_val pe_non fun σ H Q q => q _ fun _ => rfl
  | bool b => cases h; exact pe_val pe_bl fun σ H Q q => q _ fun _ => rfl
  | int i => cases h; exact pe_val pe_int fun σ H Q q => q _ fun _ => rfl
  | str s =>
    have h' : (if s.cps.toList.length ≤ LIM ∧ s.cps.toList.all (fun c => decide (c < 0x110000)) then some (D.str s.cps.toList) else none) = some d := h
    split at h'
    · rename_i ok
      cases h'
      refine pe_val pe_str fun σ H Q q => q _ fun _ => ⟨?_, ok.1, fun c hc => ?_⟩
      · rw [TL.mk_tl]
      · exact of_decide_eq_true (List.all_eq_true.mp ok.2 c hc)
    · cases h'
  | _ => cases h
theorem pe_varE {i : Nat} {x : Str} (hN : X.N[i]? = some x) (hv : Vis X.env.scope x) (hd : (x == ("__debug__" : Str)) = false) (hcd : (x == ("__classdict__" : Str)) = false) :
    PE X (.Name x pos) (tE X W (fun ρ => match ρ.get i with | some (.val d) => .ok (.val d) ρ | _ => .no)) := (pe_var hN hv hd hcd).impB fun pins s σ H Q I ⟨R, ρ, F, rel, hm⟩ => by
  dsimp only at hm
  cases e : ρ.get i with
  | none => rw [e] at hm; exact hm.elim
  | some c =>
    rw [e] at hm
    cases c with
    | own ds => exact hm.elim
    | val d =>
      obtain ⟨v, e2, r⟩ := rel.val e
      exact ⟨v, e2, hm v H ((New.val r).pv rel .refl)⟩
theorem pe_takeE {i : Nat} {x : Str} (hN : X.N[i]? = some x) (hv : Vis X.env.scope x) (hd : (x == ("__debug__" : Str)) = false) (hcd : (x == ("__classdict__" : Str)) = false) :
    PE X (.Name x pos) (tE X W (fun ρ => match ρ.get i with | some c => .ok c (ρ.put i none) | none => .no)) := (pe_var hN hv hd hcd).impB fun pins s σ H Q I ⟨R, ρ, F, rel, hm⟩ => by
  dsimp only at hm
  cases e : ρ.get i with
  | none => rw [e] at hm; exact hm.elim
  | some c =>
    rw [e] at hm
    obtain ⟨v, e2, r⟩ := rel.take e
    exact ⟨v, e2, hm v H r⟩
/-- a name's list is no more written -/
theorem Rel.fz {i : Nat} {c : Cell} (rel : Rel X.K X.mg R ρ σ H F) (e : ρ.get i = some c) : ∃ v, σ[i]? = some (some v) ∧ PV X.K X.mg R σ H F (ρ.put i (some (.val c.frz))) (.val c.frz) v H := by
  have hi := Env.get_eq e
  obtain ⟨c', v, Fi, G, e1, e2, pm, s, put⟩ := rel.er.at i (List.getElem?_eq_some_iff.mp hi).1
  rw [hi] at e1
  cases e1
  cases v with
  | none => exact s.elim
  | some v =>
    have nd : (Fi ++ G).Nodup := pm.nodup_iff.mp rel.nd
    obtain ⟨n1, n2, n3⟩ := List.nodup_append.mp nd
    have mF : ∀ p, p ∈ F ↔ p ∈ Fi ∨ p ∈ G := fun p => by rw [pm.mem_iff, List.mem_append]
    have hA : ∀ p, (p ∈ G ∨ R p) → (p ∈ F ∨ R p) := fun p z => z.elim (fun z => .inl ((mF p).mpr (.inr z))) .inr
    have hv : VR X.K X.mg (fun p => p ∈ G ∨ R p) H c.frz v := CRel.frz hA (fun p hp z => z.elim (fun z => n3 p hp p z rfl) fun z => rel.ap p ((mF p).mpr (.inl hp)) z) s
    obtain ⟨F', pm', er'⟩ := put (A' := fun p => p ∈ G ∨ R p) (H' := H) (some (.val c.frz)) (some v) [] ⟨fun _ _ q _ => q, fun b q => .inl (hA b q)⟩ (fun _ _ _ q => q) ⟨rfl, hv⟩
    rw [List.nil_append] at pm'
    have es : σ.set i (some v) = σ := by
      apply List.ext_getElem?
      intro j
      by_cases hj : i = j
      · subst hj
        rw [List.getElem?_set_self (List.getElem?_eq_some_iff.mp e2).1, e2]
      · rw [List.getElem?_set_ne hj]
    rw [es] at er'
    have mF' : ∀ p, p ∈ F' ↔ p ∈ G := fun p => pm'.mem_iff
    have ev : ∀ b, (b ∈ F' ∨ R b) → (b ∈ G ∨ R b) := fun b z => z.imp (mF' b).mp id
    refine ⟨v, e2, PF.pv ⟨F', ⟨er'.evo ⟨fun _ _ q _ => q, fun b q => .inl (ev b q)⟩ fun _ _ _ q => q, pm'.nodup_iff.mpr n2, fun p hp z => rel.ap p ((mF p).mpr (.inr ((mF' p).mp hp))) z, rel.lv⟩, hv.evo ⟨fun _ _ q _ => q, fun b q => .inl (ev b q)⟩, ⟨fun _ _ q _ => q, fun _ q => q, fun b hb => .inl ((mF b).mpr (.inr ((mF' b).mp hb)))⟩⟩⟩
theorem pe_fzE {i : Nat} {x : Str} (hN : X.N[i]? = some x) (hv : Vis X.env.scope x) (hd : (x == ("__debug__" : Str)) = false) (hcd : (x == ("__classdict__" : Str)) = false) :
    PE X (.Name x pos) (tE X W (fun ρ => match ρ.get i with | some c => .ok (.val c.frz) (ρ.put i (some (.val c.frz))) | none => .no)) := (pe_var hN hv hd hcd).impB fun pins s σ H Q I ⟨R, ρ, F, rel, hm⟩ => by
  dsimp only at hm
  cases e : ρ.get i with
  | none => rw [e] at hm; exact hm.elim
  | some c =>
    rw [e] at hm
    obtain ⟨v, e2, r⟩ := rel.fz e
    exact ⟨v, e2, hm v H r⟩
/-- a name of the module -/
structure GlbOk (X : Cx) (x : Str) (d : D) : Prop where
  ex : ∃ u v, X.mg x = some u ∧ RelV v u ∧ ∀ A H, VR X.K X.mg A H d v
theorem pe_glbE {x : Str} {d : D} (hg : Gl X x) (h : GlbOk X x d) (hd : (x == ("__debug__" : Str)) = false) : PE X (.Name x pos) (tE X W (fun ρ => .ok (.val d) ρ)) := by
  obtain ⟨u, v, hm, r, hv⟩ := h.ex
  exact pe_val (pe_glob hg hm r hd) fun σ H Q q => q v fun A => hv A H

/-! ### arguments, displays -/
theorem pa_nilE : PA X [] (tA X W (fun ρ => .ok [] ρ)) := ⟨fun pos pins s σ H Q I ⟨R, ρ, F, rel, hm⟩ => pa_nil.run pos pins s σ H Q I (hm [] H F rel rfl .refl)⟩
theorem pa_consE {es : List Expr} (ha : PE X e (tE X W ra)) (hr : PA X es (tA X W rs)) (hs : starEach (e :: es) X.env = (false, eval e X.env) :: starEach es X.env) :
    PA X (e :: es) (tA X W (fun ρ => (ra ρ).bind fun c ρ => (rs ρ).bind fun ds ρ => .ok (c.frz :: ds) ρ)) := by
  refine ⟨fun pos pins s σ H Q I ⟨R, ρ, F, rel, hm⟩ => (pa_cons ha hr hs).run pos pins s σ H Q I ?_⟩
  refine ⟨R, ρ, F, rel, (Aim.fst hm).imp fun c ρ1 h u H1 pv => ?_⟩
  obtain ⟨F1, rel1, v, st⟩ := pv.frz
  refine ⟨R, ρ1, F1, rel1, (Aim.fst (Aim.stp st h)).imp fun ds ρ2 h2 us H2 F2 rel2 vs st2 => ?_⟩
  exact h2 (u :: us) H2 F2 rel2 (VRs.cons (v.evo (st2.evo R)) vs) (st.trans st2)
theorem pe_tupE {es : List Expr} {k : Nat} (h : PA X es (tA X W rs)) : PE X (.Tuple es k pos) (tE X W (fun ρ => (rs ρ).bind fun ds ρ => if ds.length ≤ LIM then .ok (.val (.tup ds)) ρ else .no)) :=
  (pe_tup h).impB fun pins s σ H Q I ⟨R, ρ, F, rel, hm⟩ => tA.bind rel hm fun ds ρ1 xs H1 F1 rel1 vs st h1 => by
    split at h1
    · rename_i hl
      exact ⟨by rw [lim_eq, ← vs.length]; exact hl, fun p n => h1.new rel1 (.tup n vs)⟩
    · exact h1.elim
theorem pe_lstE {es : List Expr} (h : PA X es (tA X W rs)) : PE X (.List es pos) (tE X W (fun ρ => (rs ρ).bind fun ds ρ => if ds.length ≤ LIM then .ok (.own ds) ρ else .no)) :=
  (pe_lst h).impB fun pins s σ H Q I ⟨R, ρ, F, rel, hm⟩ => tA.bind rel hm fun ds ρ1 xs H1 F1 rel1 vs st h1 => by
    split at h1
    · rename_i hl
      exact ⟨by rw [lim_eq, ← vs.length]; exact hl, fun p n => h1.new rel1 (.own n vs)⟩
    · exact h1.elim

/-! ### not, and, or, if else, minus -/
theorem pe_negE (ha : PE X a (tE X W ra)) : PE X (.UnaryOp .USub a pos) (tE X W (fun ρ => (ra ρ).bind fun x ρ => match x.frz with | .int i => .ok (.val (.int (-i))) ρ | _ => .no)) :=
  (pe_un un_neg ha).impB fun pins s σ H Q I ⟨R, ρ, F, rel, hm⟩ => tE.bind rel hm fun c ρ1 x H1 F1 rel1 v st h1 => by
    cases q : c.frz with
    | int i =>
      rw [q] at h1 v
      obtain rfl : x = .int i := v
      exact ⟨i, rfl, h1.new rel1 (.val rfl)⟩
    | _ => rw [q] at h1; exact h1.elim
theorem pe_notE (ha : PE X a (tE X W ra)) : PE X (.UnaryOp .Not a pos) (tE X W (fun ρ => (ra ρ).bind fun x ρ => .of (x.frz.truth.map fun b => .val (.bl (!b))) ρ)) :=
  (pe_notT ha).impB fun pins s σ H Q I ⟨R, ρ, F, rel, hm⟩ => tE.bind rel hm fun c ρ1 x H1 F1 rel1 v st h1 => by
    cases q : c.frz.truth with
    | none => rw [q] at h1; exact h1.elim
    | some k =>
      rw [q] at h1
      exact ⟨k, v.tru q, AimV.new (ρ := ρ1) rel1 h1 (.val rfl)⟩
theorem pe_andE {rest : List Expr} (ha : PE X a (tE X W ra)) (hb : PE X (.BoolOp .And (b :: rest) pos) (tE X W rb)) : PE X (.BoolOp .And (a :: b :: rest) pos) (tE X W (fun ρ => (ra ρ).bind fun x ρ => match x.frz.truth with
    | some true => rb ρ
    | some false => .ok (.val x.frz) ρ
    | none => .no)) :=
  (pe_andT ha hb).impB fun pins s σ H Q I ⟨R, ρ, F, rel, hm⟩ => tE.bind rel hm fun c ρ1 x H1 F1 rel1 v st h1 => by
    cases q : c.frz.truth with
    | none => rw [q] at h1; exact h1.elim
    | some k =>
      rw [q] at h1
      refine ⟨k, v.tru q, ?_⟩
      cases k with
      | true =>
        rw [if_pos rfl]
        exact ⟨R, ρ1, F1, rel1, h1⟩
      | false =>
        rw [if_neg Bool.false_ne_true]
        exact AimV.new (ρ := ρ1) rel1 h1 (.val v)
theorem pe_orE {rest : List Expr} (ha : PE X a (tE X W ra)) (hb : PE X (.BoolOp .Or (b :: rest) pos) (tE X W rb)) : PE X (.BoolOp .Or (a :: b :: rest) pos) (tE X W (fun ρ => (ra ρ).bind fun x ρ => match x.frz.truth with
    | some true => .ok (.val x.frz) ρ
    | some false => rb ρ
    | none => .no)) :=
  (pe_orT ha hb).impB fun pins s σ H Q I ⟨R, ρ, F, rel, hm⟩ => tE.bind rel hm fun c ρ1 x H1 F1 rel1 v st h1 => by
    cases q : c.frz.truth with
    | none => rw [q] at h1; exact h1.elim
    | some k =>
      rw [q] at h1
      refine ⟨k, v.tru q, ?_⟩
      cases k with
      | true =>
        rw [if_pos rfl]
        exact AimV.new (ρ := ρ1) rel1 h1 (.val v)
      | false =>
        rw [if_neg Bool.false_ne_true]
        exact ⟨R, ρ1, F1, rel1, h1⟩
theorem pe_iteE {c : Expr} (hc : PT X c (tT X W rc)) (ha : PE X a (tE X W ra)) (hb : PE X b (tE X W rb)) : PE X (.IfExp c a b pos) (tE X W (fun ρ => (rc ρ).bind fun x ρ => match x.frz.truth with
    | some true => ra ρ
    | some false => rb ρ
    | none => .no)) :=
  (pe_ifExp hc ha hb).impB fun pins s σ H Q I ⟨R, ρ, F, rel, hm⟩ => tT.bind rel hm (fun c ρ1 q => by rw [q]) fun c ρ1 k H1 F1 q rel1 st h1 => by
    rw [q] at h1
    cases k with
    | true =>
      rw [if_pos rfl]
      exact ⟨R, ρ1, F1, rel1, h1⟩
    | false =>
      rw [if_neg Bool.false_ne_true]
      exact ⟨R, ρ1, F1, rel1, h1⟩

/-! ### tests -/
theorem pt_trueE (ha : PE X a (tE X W ra)) (he : ∀ whole, isTrue a X.env whole = (do let v ← whole; standAt a.pos; holding [v] (truthy v))) : PT X a (tT X W ra) :=
  (pt_truth ha he).impB fun pins s σ H Q I ⟨R, ρ, F, rel, hm⟩ => ⟨R, ρ, F, rel, hm.imp fun c ρ1 ⟨k, e, h⟩ u H1 pv => by
    obtain ⟨F1, rel1, v, st⟩ := pv.frz
    exact ⟨k, v.tru e, h H1 ⟨F1, rel1, st⟩⟩⟩
theorem pt_notE (ha : PT X a (tT X W ra)) : PT X (.UnaryOp .Not a pos) (tT X W (fun ρ => (ra ρ).bind fun x ρ => .of (x.frz.truth.map fun b => .val (.bl (!b))) ρ)) :=
  (pt_not ha).impB fun pins s σ H Q I ⟨R, ρ, F, rel, hm⟩ => ⟨R, ρ, F, rel, (Aim.fst hm).imp fun c ρ1 h => by
    cases q : c.frz.truth with
    | none => rw [q] at h; exact h.elim
    | some k =>
      rw [q] at h
      obtain ⟨j, e, h⟩ := h
      cases e
      exact ⟨k, rfl, h⟩⟩
theorem pw_andE {rest : List Expr} (ha : PT X a (tT X W ra)) (hb : PW X (.BoolOp .And (b :: rest) pos) (tT X W rb)) : PW X (.BoolOp .And (a :: b :: rest) pos) (tT X W (fun ρ => (ra ρ).bind fun x ρ => match x.frz.truth with
    | some true => rb ρ
    | some false => .ok (.val x.frz) ρ
    | none => .no)) := ⟨fun wh pins s σ H Q I ⟨R, ρ, F, rel, hm⟩ => (pw_and ha hb).run wh pins s σ H Q I ⟨R, ρ, F, rel, (Aim.fst hm).imp fun c ρ1 h => by
    cases q : c.frz.truth with
    | none => rw [q] at h; exact h.elim
    | some k =>
      rw [q] at h
      refine ⟨k, rfl, fun H1 pb => ?_⟩
      cases k with
      | true =>
        rw [if_pos rfl]
        obtain ⟨F1, rel1, st⟩ := pb
        exact ⟨R, ρ1, F1, rel1, (Aim.stp st h).imp fun c2 ρ2 ⟨k2, e2, h2⟩ => ⟨k2, e2, fun H2 pb2 => h2 H2 (pb2.stp st)⟩⟩
      | false =>
        rw [if_neg Bool.false_ne_true]
        obtain ⟨k2, e2, h2⟩ := h
        have e3 : c.frz.truth = some k2 := e2
        rw [q] at e3
        cases e3
        exact h2 H1 pb⟩⟩
theorem pw_orE {rest : List Expr} (ha : PT X a (tT X W ra)) (hb : PW X (.BoolOp .Or (b :: rest) pos) (tT X W rb)) : PW X (.BoolOp .Or (a :: b :: rest) pos) (tT X W (fun ρ => (ra ρ).bind fun x ρ => match x.frz.truth with
    | some true => .ok (.val x.frz) ρ
    | some false => rb ρ
    | none => .no)) := ⟨fun wh pins s σ H Q I ⟨R, ρ, F, rel, hm⟩ => (pw_or ha hb).run wh pins s σ H Q I ⟨R, ρ, F, rel, (Aim.fst hm).imp fun c ρ1 h => by
    cases q : c.frz.truth with
    | none => rw [q] at h; exact h.elim
    | some k =>
      rw [q] at h
      refine ⟨k, rfl, fun H1 pb => ?_⟩
      cases k with
      | false =>
        rw [if_neg Bool.false_ne_true]
        obtain ⟨F1, rel1, st⟩ := pb
        exact ⟨R, ρ1, F1, rel1, (Aim.stp st h).imp fun c2 ρ2 ⟨k2, e2, h2⟩ => ⟨k2, e2, fun H2 pb2 => h2 H2 (pb2.stp st)⟩⟩
      | true =>
        rw [if_pos rfl]
        obtain ⟨k2, e2, h2⟩ := h
        have e3 : c.frz.truth = some k2 := e2
        rw [q] at e3
        cases e3
        exact h2 H1 pb⟩⟩
/-- a value that is a truth value, as a test -/
theorem tT_of_bl {r : Env → Res Cell} {σ : L2.St} {H : Hp} {Q : Bool → Hp → Prop} (h : tT X W r σ H Q) (hb : ∀ ρ c ρ', r ρ = .ok c ρ' → ∃ k, c = .val (.bl k)) : tE X W r σ H (fun v H1 => ∃ k, v = .bl k ∧ Q k H1) := by
  obtain ⟨R, ρ, F, rel, hm⟩ := h
  refine ⟨R, ρ, F, rel, ?_⟩
  cases q : r ρ with
  | no => rw [q] at hm; exact hm.elim
  | ex x ρ' => rw [q] at hm; exact hm
  | ok c ρ' =>
    rw [q] at hm
    obtain ⟨k, e, h⟩ := hm
    obtain ⟨k', rfl⟩ := hb ρ c ρ' q
    have e' : some k' = some k := e
    cases e'
    exact fun u H1 pv => by
      obtain ⟨F1, rel1, v, st⟩ := pv.frz
      exact ⟨k, v, h H1 ⟨F1, rel1, st⟩⟩
theorem cmp_tE {g : D → D → Option Bool} {σ : L2.St} {H : Hp} {Q : Bool → Hp → Prop} (h : tT X W (fun ρ => (ra ρ).bind fun x ρ => (rb ρ).bind fun y ρ => .of ((g x.frz y.frz).map fun k => .val (.bl k)) ρ) σ H Q) : tE X W (fun ρ => (ra ρ).bind fun x ρ => (rb ρ).bind fun y ρ => .of ((g x.frz y.frz).map fun k => .val (.bl k)) ρ) σ H (fun v H1 => ∃ k, v = .bl k ∧ Q k H1) := by
  refine tT_of_bl h ?_
  intro ρ c ρ' e
  cases e1 : ra ρ with
  | no => rw [e1] at e; cases e
  | ex x ρ1 => rw [e1] at e; cases e
  | ok x ρ1 =>
    rw [e1] at e
    change (rb ρ1).bind _ = _ at e
    cases e2 : rb ρ1 with
    | no => rw [e2] at e; cases e
    | ex x ρ1 => rw [e2] at e; cases e
    | ok y ρ2 =>
      rw [e2] at e
      change Res.of _ _ = _ at e
      cases e3 : g x.frz y.frz with
      | none => rw [e3] at e; cases e
      | some k => rw [e3] at e; cases e; exact ⟨k, rfl⟩
theorem pt_cmpE {op : CmpOp} {g : D → D → Option Bool} (ho : CmS X op g) (ha : PE X a (tE X W ra)) (hb : PE X b (tE X W rb)) (hm : behindInMarks op b = false) : PT X (.Compare a [op] [b] pos) (tT X W (fun ρ => (ra ρ).bind fun x ρ => (rb ρ).bind fun y ρ => .of ((g x.frz y.frz).map fun k => .val (.bl k)) ρ)) :=
  ⟨fun pins s σ H Q I h => wpAny_isTrue_Compare1 (thn (run2 ha hb ho I (cmp_tE h)) fun v s1 h1 => thn h1 fun u s2 h2 => thn h2 fun c s3 ⟨x, H1, I1, r1, k, e, q⟩ => by
    subst e
    cases r1
    exact wpAny_truthy_bool ⟨H1, I1, q⟩) hm⟩
end
end Bw

set_option Elab.async false
set_option linter.all false
set_option maxRecDepth 100000
set_option exponentiation.threshold 4000
/-! Bw7: texts; built-in functions and methods; subscripts; calls. -/
namespace Bw
open PySem PySem.Spec PyProof.Rows L2

/-! ### parts of texts -/
def Part (x y : Str) : Prop := (TL.tl y).length ≤ (TL.tl x).length ∧ ∀ c ∈ TL.tl y, c ∈ TL.tl x
theorem Part.refl (x : Str) : Part x x := ⟨Nat.le_refl _, fun _ h => h⟩
theorem Part.sub (x : Str) (i j : Nat) : Part x (Builtin.Str.strSub x i j) := by
  unfold Part
  rw [TL.tl_strSub]
  exact ⟨by rw [List.length_take, List.length_drop]; omega, fun c h => List.mem_of_mem_drop (List.mem_of_mem_take h)⟩
theorem Part.ok {s : List Nat} {y : Str} (a : okS s) (h : Part (sOf s) y) : okS (TL.tl y) := a.sub h.1 h.2
theorem part_between (x : Str) (cuts : List Nat) (w : Nat) : ∀ y ∈ Builtin.Str.partsBetween x cuts w, Part x y := by
  intro y hy
  unfold Builtin.Str.partsBetween at hy
  obtain ⟨⟨i, j⟩, _, rfl⟩ := List.mem_map.mp hy
  exact Part.sub x i j
theorem part_split (x y : Str) : ∀ z ∈ Txt.split x y, Part x z := by
  intro z hz
  unfold Txt.split at hz
  split at hz
  · rw [List.mem_singleton.mp hz]; exact Part.refl x
  · split at hz
    · rw [List.mem_singleton.mp hz]; exact Part.refl x
    · exact part_between x _ _ z hz
theorem part_strip (g : Nat → Bool) (l r : Bool) (x : Str) : Part x (Txt.stripBy g l r x) := by
  unfold Txt.stripBy
  split
  · exact Part.refl x
  · unfold stripped
    first
      | exact Part.sub x _ _
      | (split <;> first | exact Part.sub x _ _ | exact Part.refl x)
theorem part_words (x : Str) : ∀ z ∈ Txt.words x, Part x z := by
  intro z hz
  unfold Txt.words at hz
  split at hz
  · rw [List.mem_singleton.mp hz]; exact Part.refl x
  · unfold wordsOf at hz
    obtain ⟨⟨i, j⟩, _, rfl⟩ := List.mem_map.mp hz
    exact Part.sub x i j
theorem joinL_mem (a : List Nat) : ∀ (xs : List (List Nat)) (c : Nat), c ∈ TL.joinL a xs → c ∈ a ∨ ∃ x ∈ xs, c ∈ x
  | [], c, h => by cases h
  | [x], c, h => .inr ⟨x, by simp, h⟩
  | x :: y :: r, c, h => by
    rcases List.mem_append.mp (show c ∈ x ++ (a ++ TL.joinL a (y :: r)) from h) with z | z
    · exact .inr ⟨x, by simp, z⟩
    · rcases List.mem_append.mp z with z | z
      · exact .inl z
      · rcases joinL_mem a (y :: r) c z with w | ⟨w, hw, hc⟩
        · exact .inl w
        · exact .inr ⟨w, List.mem_cons_of_mem _ hw, hc⟩
theorem joinL_len (a : List Nat) : ∀ (xs : List (List Nat)), (TL.joinL a xs).length ≤ (xs.map List.length).sum + xs.length * a.length
  | [] => Nat.zero_le _
  | [x] => by
    show x.length ≤ _
    simp only [List.map_cons, List.map_nil, List.sum_cons, List.sum_nil]
    omega
  | x :: y :: r => by
    have h := joinL_len a (y :: r)
    show (x ++ (a ++ TL.joinL a (y :: r))).length ≤ _
    rw [List.length_append, List.length_append]
    simp only [List.map_cons, List.sum_cons, List.length_cons, Nat.succ_mul] at h ⊢
    omega

section
variable {K : PySem.W.Frag} {mg : Str → Option Value} {A : Av} {H : Hp}
theorem VR.strs {l : List Str} (h : ∀ y ∈ l, okS (TL.tl y)) : VRs K mg A H (l.map fun x => D.str (TL.tl x)) (l.map V.str) := by
  induction l with
  | nil => rfl
  | cons y r ih => exact ⟨V.str y, r.map V.str, rfl, ⟨by rw [TL.mk_tl], h y List.mem_cons_self⟩, ih fun z hz => h z (List.mem_cons_of_mem _ hz)⟩
theorem allOf_cons {α β : Type} {f : α → Option β} {a : α} {as : List α} {bs : List β} (e : allOf f (a :: as) = some bs) : ∃ b bs', f a = some b ∧ allOf f as = some bs' ∧ bs = b :: bs' := by
  unfold allOf at e
  split at e
  · rename_i b bs' h1 h2
    exact ⟨b, bs', h1, h2, (Option.some.inj e).symm⟩
  · cases e
theorem VRs.bls : ∀ {ds : List D} {ws : List V} {bs : List Bool}, VRs K mg A H ds ws → allOf D.asBl ds = some bs → ws = bs.map V.bl
  | [], ws, bs, h, e => by
    cases e
    exact h
  | d :: ds, ws, bs, h, e => by
    obtain ⟨w, ws', rfl, r, rs⟩ := h
    obtain ⟨b0, bs', e1, q, rfl⟩ := allOf_cons e
    cases d with
    | bl b =>
      · cases e1
        obtain rfl : w = .bl _ := r
        rw [VRs.bls rs q]
        rfl
    | _ => cases e1
theorem VRs.ints : ∀ {ds : List D} {ws : List V} {bs : List Int}, VRs K mg A H ds ws → allOf D.asInt ds = some bs → ws = bs.map V.int
  | [], ws, bs, h, e => by
    cases e
    exact h
  | d :: ds, ws, bs, h, e => by
    obtain ⟨w, ws', rfl, r, rs⟩ := h
    obtain ⟨b0, bs', e1, q, rfl⟩ := allOf_cons e
    cases d with
    | int b =>
      · cases e1
        obtain rfl : w = .int _ := r
        rw [VRs.ints rs q]
        rfl
    | _ => cases e1
theorem VRs.texts : ∀ {ds : List D} {ws : List V} {bs : List (List Nat)}, VRs K mg A H ds ws → allOf D.asStr ds = some bs → ws = (bs.map sOf).map V.str ∧ ∀ b ∈ bs, okS b
  | [], ws, bs, h, e => by
    cases e
    exact ⟨h, fun _ z => by cases z⟩
  | d :: ds, ws, bs, h, e => by
    obtain ⟨w, ws', rfl, r, rs⟩ := h
    obtain ⟨b0, bs', e1, q, rfl⟩ := allOf_cons e
    cases d with
    | str b =>
      · cases e1
        obtain ⟨rfl, ok⟩ := r
        obtain ⟨h1, h2⟩ := VRs.texts rs q
        rw [h1]
        exact ⟨rfl, fun z hz => (List.mem_cons.mp hz).elim (fun e => e ▸ ok) (h2 z)⟩
    | _ => cases e1
/-- an argument that is looked at alone: a value, or a list of a name's own -/
inductive AR (K : PySem.W.Frag) (mg : Str → Option Value) (A : Av) (H : Hp) : D → V → Prop
  | of {d : D} {v : V} : VR K mg A H d v → AR K mg A H d v
  | pk {p : Addr} {ds : List D} {ws : List V} : H p = some (.lst ws) → VRs K mg A H ds ws → AR K mg A H (.lst ds) (.ref p)
theorem AR.lst {ds : List D} {v : V} (h : AR K mg A H (.lst ds) v) : ∃ p ws, v = .ref p ∧ H p = some (.lst ws) ∧ VRs K mg A H ds ws := by
  cases h with
  | of h =>
    obtain ⟨p, ws, e, r, rs⟩ := h
    exact ⟨p, ws, e, r.1, rs⟩
  | pk h rs => exact ⟨_, _, rfl, h, rs⟩
theorem AR.int {i : Int} {v : V} (h : AR K mg A H (.int i) v) : v = .int i := by cases h with | of h => exact h
theorem AR.bl {i : Bool} {v : V} (h : AR K mg A H (.bl i) v) : v = .bl i := by cases h with | of h => exact h
theorem AR.str {i : List Nat} {v : V} (h : AR K mg A H (.str i) v) : v = .str ⟨i.toArray⟩ ∧ okS i := by cases h with | of h => exact h
theorem AR.tup {ds : List D} {v : V} (h : AR K mg A H (.tup ds) v) : ∃ p ws, v = .ref p ∧ RdT K A H p ws ∧ VRs K mg A H ds ws := by cases h with | of h => exact h
theorem AR.scr {ns : List Int} {v : V} (h : AR K mg A H (.scr ns) v) : ∃ p, v = .ref p ∧ RdL K A H p (ns.map V.int) := by cases h with | of h => exact h
abbrev ARs (K : PySem.W.Frag) (mg : Str → Option Value) (A : Av) (H : Hp) : List D → List V → Prop := Paired (AR K mg A H)
theorem VRs.ars {ds : List D} {ws : List V} (h : VRs K mg A H ds ws) : ARs K mg A H ds ws := Paired.mapP h.pair fun _ _ r => .of r
theorem ARs.one {d : D} {ws : List V} (h : ARs K mg A H [d] ws) : ∃ w, ws = [w] ∧ AR K mg A H d w := by
  cases h with
  | cons r t => cases t; exact ⟨_, rfl, r⟩
theorem ARs.two {d e : D} {ws : List V} (h : ARs K mg A H [d, e] ws) : ∃ w u, ws = [w, u] ∧ AR K mg A H d w ∧ AR K mg A H e u := by
  cases h with
  | cons r t => obtain ⟨u, rfl, q⟩ := ARs.one t; exact ⟨_, _, rfl, r, q⟩
theorem ARs.zero {ws : List V} (h : ARs K mg A H [] ws) : ws = [] := by cases h; rfl
end

/-! ### built-in functions -/
def Bi.val : Bi → Value
  | .len => .builtin "len"
  | .abs => .builtin "abs"
  | .int => .type "int"
  | .all => .builtin "all"
  | .any => .builtin "any"
  | .tuple => .type "tuple"
  | .list => .type "list"
  | .sum => .builtin "sum"
  | .max2 => .builtin "max"
  | .min2 => .builtin "min"
  | .str => .type "str"
def rBi (X : Cx) (b : Bi) : List V → Hp → VK → Prop := fun xs H Q => ∃ A ds c, ARs X.K X.mg A H ds xs ∧ b.run ds = some c ∧ ∀ w H', New X.K X.mg A H c w H' → Q w H'
section
variable {X : Cx}
theorem numL_ok {n : Nat} (h : n < 1000000000) : okS (TL.numL n) := by
  refine ⟨Nat.le_trans (TL.numL_len (k := 9) (by decide) h) (by decide), fun c hc => ?_⟩
  have := TL.numL_digits n c hc
  omega
theorem log2_small {i : Int} (h0 : 0 ≤ i) (h : i < 1000000000) : i.natAbs.log2 < 1920 := by
  by_cases z : i.natAbs = 0
  · rw [z]; decide
  · rw [Nat.log2_lt z]
    have h1 : i.natAbs < 2 ^ 30 := by omega
    exact Nat.lt_of_lt_of_le h1 (Nat.pow_le_pow_right (by decide) (by decide))
theorem bi_ok (g : Gd X) (b : Bi) : CallR X b.val (rBi X b) := by
  intro pins s σ H xs us Q I rv h
  obtain ⟨A, ds, c, ar, e, q⟩ := h
  cases b with
  | len =>
    cases ds with
    | nil => cases e
    | cons d r => cases r with
      | cons _ _ => cases d <;> cases e
      | nil =>
        obtain ⟨w, rfl, a⟩ := ar.one
        cases d with
        | str z =>
          cases e
          obtain ⟨rfl, ok⟩ := a.str
          exact call_len pins s σ H _ us Q I rv ⟨_, z.length, rfl, ⟨by rw [lim_eq, str_len]; exact ok.1, (str_len z).symm⟩, q _ _ (.val rfl)⟩
        | tup z =>
          cases e
          obtain ⟨p, ws, rfl, r, rs⟩ := a.tup
          exact call_len pins s σ H _ us Q I rv ⟨_, z.length, rfl, .inr ⟨ws, r.sq, rs.length⟩, q _ _ (.val rfl)⟩
        | lst z =>
          cases e
          obtain ⟨p, ws, rfl, r, rs⟩ := a.lst
          exact call_len pins s σ H _ us Q I rv ⟨_, z.length, rfl, .inl ⟨ws, .of r, rs.length⟩, q _ _ (.val rfl)⟩
        | scr z =>
          cases e
          obtain ⟨p, rfl, r⟩ := a.scr
          exact call_len pins s σ H _ us Q I rv ⟨_, z.length, rfl, .inl ⟨_, r.sq, by rw [List.length_map]⟩, q _ _ (.val rfl)⟩
        | _ => cases e
  | abs =>
    cases ds with
    | nil => cases e
    | cons d r => cases r with
      | cons _ _ => cases d <;> cases e
      | nil =>
        obtain ⟨w, rfl, a⟩ := ar.one
        cases d with
        | int i =>
          cases e
          obtain rfl := a.int
          exact call_abs pins s σ H _ us Q I rv ⟨_, rfl, q _ _ (.val rfl)⟩
        | _ => cases e
  | int =>
    cases ds with
    | nil => cases e
    | cons d r => cases r with
      | cons _ _ => cases d <;> cases e
      | nil =>
        obtain ⟨w, rfl, a⟩ := ar.one
        cases d with
        | int i =>
          cases e
          obtain rfl := a.int
          exact call_int1 pins s σ H _ us Q I rv (.inl ⟨_, rfl, q _ _ (.val rfl)⟩)
        | bl i =>
          cases e
          obtain rfl := a.bl
          exact call_int1 pins s σ H _ us Q I rv (.inr ⟨_, rfl, q _ _ (.val rfl)⟩)
        | _ => cases e
  | all =>
    cases ds with
    | nil => cases e
    | cons d r => cases r with
      | cons _ _ => cases d <;> cases e
      | nil =>
        obtain ⟨w, rfl, a⟩ := ar.one
        cases d with
        | lst z =>
          obtain ⟨p, ws, rfl, r, rs⟩ := a.lst
          have e' : (allOf D.asBl z).map (fun bs => Cell.val (.bl (bs.all id))) = some c := e
          cases k : allOf D.asBl z with
          | none => rw [k] at e'; cases e'
          | some bs =>
            rw [k] at e'
            cases e'
            have := rs.bls k
            subst this
            exact cr_all g.calm pins s σ H _ us Q I rv ⟨p, bs, rfl, .of r, q _ _ (.val rfl)⟩
        | _ => cases e
  | any =>
    cases ds with
    | nil => cases e
    | cons d r => cases r with
      | cons _ _ => cases d <;> cases e
      | nil =>
        obtain ⟨w, rfl, a⟩ := ar.one
        cases d with
        | lst z =>
          obtain ⟨p, ws, rfl, r, rs⟩ := a.lst
          have e' : (allOf D.asBl z).map (fun bs => Cell.val (.bl (bs.any id))) = some c := e
          cases k : allOf D.asBl z with
          | none => rw [k] at e'; cases e'
          | some bs =>
            rw [k] at e'
            cases e'
            have := rs.bls k
            subst this
            exact cr_any g.calm pins s σ H _ us Q I rv ⟨p, bs, rfl, .of r, q _ _ (.val rfl)⟩
        | _ => cases e
  | sum =>
    cases ds with
    | nil => cases e
    | cons d r => cases r with
      | cons _ _ => cases d <;> cases e
      | nil =>
        obtain ⟨w, rfl, a⟩ := ar.one
        cases d with
        | lst z =>
          obtain ⟨p, ws, rfl, r, rs⟩ := a.lst
          have e' : (allOf D.asInt z).map (fun bs => Cell.val (.int bs.sum)) = some c := e
          cases k : allOf D.asInt z with
          | none => rw [k] at e'; cases e'
          | some bs =>
            rw [k] at e'
            cases e'
            have := rs.ints k
            subst this
            exact cr_sum g.calm pins s σ H _ us Q I rv ⟨p, bs, rfl, .of r, q _ _ (.val rfl)⟩
        | _ => cases e
  | tuple =>
    cases ds with
    | nil => cases e
    | cons d r => cases r with
      | cons _ _ => cases d <;> cases e
      | nil =>
        obtain ⟨w, rfl, a⟩ := ar.one
        cases d with
        | tup z =>
          cases e
          obtain ⟨p, ws, rfl, r, rs⟩ := a.tup
          exact call_tuple_of pins s σ H _ us Q I rv ⟨p, ws, rfl, .inr ⟨r.sq, q _ _ (.val ⟨p, ws, rfl, r, rs⟩)⟩⟩
        | lst z =>
          cases e
          obtain ⟨p, ws, rfl, r, rs⟩ := a.lst
          exact call_tuple_of pins s σ H _ us Q I rv ⟨p, ws, rfl, .inl ⟨.of r, fun l n => q _ _ (.tup n rs)⟩⟩
        | _ => cases e
  | list =>
    cases ds with
    | nil => cases e
    | cons d r => cases r with
      | cons _ _ => cases d <;> cases e
      | nil =>
        obtain ⟨w, rfl, a⟩ := ar.one
        cases d with
        | tup z =>
          cases e
          obtain ⟨p, ws, rfl, r, rs⟩ := a.tup
          exact call_list_of pins s σ H _ us Q I rv ⟨p, ws, rfl, .inr r.sq, fun l n => q _ _ (.own n rs)⟩
        | lst z =>
          cases e
          obtain ⟨p, ws, rfl, r, rs⟩ := a.lst
          exact call_list_of pins s σ H _ us Q I rv ⟨p, ws, rfl, .inl (.of r), fun l n => q _ _ (.own n rs)⟩
        | _ => cases e
  | str =>
    cases ds with
    | nil => cases e
    | cons d r => cases r with
      | cons _ _ => cases d <;> cases e
      | nil =>
        obtain ⟨w, rfl, a⟩ := ar.one
        cases d with
        | int i =>
          obtain rfl := a.int
          have e' : (if 0 ≤ i ∧ i < 1000000000 then some (Cell.val (.str (TL.numL i.toNat))) else none) = some c := e
          split at e'
          · rename_i hl
            cases e'
            refine call_str_int pins s σ H _ us Q I rv ⟨i, rfl, log2_small hl.1 hl.2, q _ _ (.val ⟨?_, numL_ok (by omega)⟩)⟩
            rw [← TL.tl_num, TL.mk_tl, Int.toNat_of_nonneg hl.1]
          · cases e'
        | _ => cases e
  | max2 =>
    cases ds with
    | nil => cases e
    | cons d r => cases r with
      | nil => cases d <;> cases e
      | cons d2 r => cases r with
        | cons _ _ => cases d <;> cases d2 <;> cases e
        | nil =>
          obtain ⟨w, u, rfl, a1, a2⟩ := ar.two
          cases d with
          | int i => cases d2 with
            | int j =>
              cases e
              obtain rfl := a1.int
              obtain rfl := a2.int
              exact call_max2 g.calm pins s σ H _ us Q I rv ⟨i, j, rfl, q _ _ (.val rfl)⟩
            | _ => cases e
          | _ => cases d2 <;> cases e
  | min2 =>
    cases ds with
    | nil => cases e
    | cons d r => cases r with
      | nil => cases d <;> cases e
      | cons d2 r => cases r with
        | cons _ _ => cases d <;> cases d2 <;> cases e
        | nil =>
          obtain ⟨w, u, rfl, a1, a2⟩ := ar.two
          cases d with
          | int i => cases d2 with
            | int j =>
              cases e
              obtain rfl := a1.int
              obtain rfl := a2.int
              exact call_min2 g.calm pins s σ H _ us Q I rv ⟨i, j, rfl, q _ _ (.val rfl)⟩
            | _ => cases e
          | _ => cases d2 <;> cases e
end
end Bw

set_option Elab.async false
set_option linter.all false
set_option maxRecDepth 100000
/-! Bw8: methods, subscripts, isinstance, calls. -/
namespace Bw
open PySem PySem.Spec PyProof.Rows L2

/-! ### methods of texts -/
def Mt.id : Mt → String
  | .find => "str.find"
  | .replace => "str.replace"
  | .split => "str.split"
  | .words => "str.split"
  | .join => "str.join"
  | .rstrip => "str.rstrip"
  | .rstripC => "str.rstrip"
  | .index => "str.index"
  | .strip => "str.strip"
  | .count => "str.count"
  | .startswith => "str.startswith"
def Mt.nm : Mt → Str
  | .find => "find"
  | .replace => "replace"
  | .split => "split"
  | .words => "split"
  | .join => "join"
  | .rstrip => "rstrip"
  | .rstripC => "rstrip"
  | .index => "index"
  | .strip => "strip"
  | .count => "count"
  | .startswith => "startswith"
def Mt.easy : Mt → Bool
  | .replace => false
  | _ => true
def rMt (X : Cx) (m : Mt) : V → List V → Hp → VK → Prop := fun x xs H Q => ∃ A d ds c, VR X.K X.mg A H d x ∧ ARs X.K X.mg A H ds xs ∧ m.run d ds = some c ∧ ∀ w H', New X.K X.mg A H c w H' → Q w H'
section
variable {X : Cx}
theorem join_ok {a : List Nat} {xs : List (List Nat)} (ha : okS a) (hx : ∀ b ∈ xs, okS b) (h : (xs.map List.length).sum + xs.length * a.length ≤ LIM) : okS (TL.joinL a xs) :=
  ⟨Nat.le_trans (joinL_len a xs) h, fun c hc => (joinL_mem a xs c hc).elim (ha.2 c) fun ⟨x, hm, z⟩ => (hx x hm).2 c z⟩
theorem map_len_sOf (xs : List (List Nat)) : ((xs.map sOf).map (·.length)) = xs.map List.length := by
  rw [List.map_map]
  apply List.map_congr_left
  intro a _
  exact str_len a
theorem map_tl_sOf (xs : List (List Nat)) : (xs.map sOf).map TL.tl = xs := by
  rw [List.map_map]
  have : (TL.tl ∘ sOf) = id := by funext a; rfl
  rw [this, List.map_id]
theorem new_strs {K : PySem.W.Frag} {mg : Str → Option Value} {A : Av} {H : Hp} {Q : VK} {l : List Str} (h : ∀ y ∈ l, okS (TL.tl y)) (q : ∀ w H', New K mg A H (.own (l.map fun x => .str (TL.tl x))) w H' → Q w H') : rNewStrs l H Q := fun p n => q _ _ (.own n (VR.strs h))
theorem mt_ok (m : Mt) (he : m.easy = true) : MtR X m.id (rMt X m) := by
  intro pins s σ H x xs v us Q I rx rv h
  obtain ⟨A, d, ds, c, hd, ar, e, q⟩ := h
  cases d with
  | str a =>
    obtain ⟨rfl, oa⟩ := hd
    cases m with
    | find =>
      cases ds with
      | nil => cases e
      | cons d r => cases r with
        | cons _ _ => cases d <;> cases e
        | nil => cases d with
          | str b =>
            obtain ⟨w, rfl, z⟩ := ar.one
            obtain ⟨rfl, ob⟩ := z.str
            cases e
            exact mt_find pins s σ H _ _ v us Q I rx rv ⟨_, _, rfl, rfl, q _ _ (.val rfl)⟩
          | _ => cases e
    | count =>
      cases ds with
      | nil => cases e
      | cons d r => cases r with
        | cons _ _ => cases d <;> cases e
        | nil => cases d with
          | str b =>
            obtain ⟨w, rfl, z⟩ := ar.one
            obtain ⟨rfl, ob⟩ := z.str
            cases e
            exact mt_count pins s σ H _ _ v us Q I rx rv ⟨_, _, rfl, rfl, q _ _ (.val rfl)⟩
          | _ => cases e
    | startswith =>
      cases ds with
      | nil => cases e
      | cons d r => cases r with
        | cons _ _ => cases d <;> cases e
        | nil => cases d with
          | str b =>
            obtain ⟨w, rfl, z⟩ := ar.one
            obtain ⟨rfl, ob⟩ := z.str
            cases e
            exact mt_startswith pins s σ H _ _ v us Q I rx rv ⟨_, _, rfl, rfl, q _ _ (.val rfl)⟩
          | _ => cases e
    | index =>
      cases ds with
      | nil => cases e
      | cons d r => cases r with
        | cons _ _ => cases d <;> cases e
        | nil => cases d with
          | str b =>
            obtain ⟨w, rfl, z⟩ := ar.one
            obtain ⟨rfl, ob⟩ := z.str
            have e' : (match Builtin.Str.occurrences (sOf a) (sOf b) 0 a.length 1 with | i :: _ => some (Cell.val (.int (i : Nat))) | [] => none) = some c := e
            cases o : Builtin.Str.occurrences (sOf a) (sOf b) 0 a.length 1 with
            | nil => rw [o] at e'; cases e'
            | cons i rest =>
              rw [o] at e'
              cases e'
              exact mt_sindex pins s σ H _ _ v us Q I rx rv ⟨sOf a, sOf b, i, rest, rfl, rfl, by rw [show (sOf a).length = a.length from str_len a]; exact o, q _ _ (.val rfl)⟩
          | _ => cases e
    | replace => cases he
    | split =>
      cases ds with
      | nil => cases e
      | cons d r => cases r with
        | cons _ _ => cases d <;> cases e
        | nil => cases d with
          | str b =>
            obtain ⟨w, rfl, z⟩ := ar.one
            obtain ⟨rfl, ob⟩ := z.str
            have e' : (if b.length ≠ 0 ∧ a.length + 2 ≤ LIM then some (Cell.own ((PySem.Txt.split (sOf a) (sOf b)).map fun x => .str (TL.tl x))) else none) = some c := e
            split at e'
            · rename_i hl
              cases e'
              refine mt_split pins s σ H _ _ v us Q I rx rv ⟨sOf a, sOf b, rfl, rfl, ?_, ?_, new_strs (fun y hy => (part_split _ _ y hy).ok oa) q⟩
              · rw [show (sOf b).length = b.length from str_len b]
                simpa using hl.1
              · rw [lim_eq, show (sOf a).length = a.length from str_len a]
                exact hl.2
            · cases e'
          | _ => cases e
    | words =>
      cases ds with
      | cons _ _ => cases e
      | nil =>
        have z := ar.zero
        subst z
        have e' : (if a.length + 2 ≤ LIM then some (Cell.own ((PySem.Txt.words (sOf a)).map fun x => .str (TL.tl x))) else none) = some c := e
        split at e'
        · rename_i hl
          cases e'
          refine mt_words pins s σ H _ _ v us Q I rx rv ⟨sOf a, rfl, rfl, ?_, new_strs (fun y hy => (part_words _ y hy).ok oa) q⟩
          rw [lim_eq, show (sOf a).length = a.length from str_len a]
          exact hl
        · cases e'
    | rstrip =>
      cases ds with
      | cons _ _ => cases e
      | nil =>
        have z := ar.zero
        subst z
        cases e
        exact mt_rstrip pins s σ H _ _ v us Q I rx rv ⟨sOf a, rfl, rfl, by rw [lim_eq, show (sOf a).length = a.length from str_len a]; exact oa.1, q _ _ (.val ⟨by rw [TL.mk_tl], (part_strip _ _ _ _).ok oa⟩)⟩
    | strip =>
      cases ds with
      | cons _ _ => cases e
      | nil =>
        have z := ar.zero
        subst z
        cases e
        exact mt_strip pins s σ H _ _ v us Q I rx rv ⟨sOf a, rfl, rfl, by rw [lim_eq, show (sOf a).length = a.length from str_len a]; exact oa.1, q _ _ (.val ⟨by rw [TL.mk_tl], (part_strip _ _ _ _).ok oa⟩)⟩
    | rstripC =>
      cases ds with
      | nil => cases e
      | cons d r => cases r with
        | cons _ _ => cases d <;> cases e
        | nil => cases d with
          | str b =>
            obtain ⟨w, rfl, z⟩ := ar.one
            obtain ⟨rfl, ob⟩ := z.str
            cases e
            exact mt_rstripChars pins s σ H _ _ v us Q I rx rv ⟨sOf a, sOf b, rfl, rfl, by rw [lim_eq, show (sOf a).length = a.length from str_len a]; exact oa.1, q _ _ (.val ⟨by rw [TL.mk_tl], (part_strip _ _ _ _).ok oa⟩)⟩
          | _ => cases e
    | join =>
      have fin : ∀ (xs' : List (List Nat)) (p : Addr), (∀ b ∈ xs', okS b) → xs = [V.ref p] → (SqL X.K H p ((xs'.map sOf).map V.str) ∨ SqT X.K H p ((xs'.map sOf).map V.str)) →
          (if (xs'.map List.length).sum + xs'.length * a.length ≤ LIM then some (Cell.val (.str (TL.joinL a xs'))) else none) = some c → wpAny (model X.prog X.w) X.A (call (.builtin "str.join") (v :: us)) (EP X pins σ Q) X.xe s := by
        intro xs' p ok hx hs e'
        split at e'
        · rename_i hl
          cases e'
          subst hx
          refine mt_join pins s σ H _ _ v us Q I rx rv ⟨sOf a, p, xs'.map sOf, rfl, rfl, hs, ?_, q _ _ (.val ⟨?_, join_ok oa ok hl⟩)⟩
          · rw [map_len_sOf, List.length_map, show (sOf a).length = a.length from str_len a]
            exact hl
          · rw [TL.join_eq]
            congr 1
            apply TL.ext_tl
            rw [TL.tl_join, map_tl_sOf]
            rfl
        · cases e'
      cases ds with
      | nil => cases e
      | cons d r => cases r with
        | cons _ _ => cases d <;> cases e
        | nil =>
          obtain ⟨w, hw, z⟩ := ar.one
          cases d with
          | lst ds =>
            obtain ⟨p, ws, rfl, r, rs⟩ := z.lst
            have e' : (match allOf D.asStr ds with | some xs => (if (xs.map List.length).sum + xs.length * a.length ≤ LIM then some (Cell.val (.str (TL.joinL a xs))) else none) | none => none) = some c := e
            cases k : allOf D.asStr ds with
            | none => rw [k] at e'; cases e'
            | some xs' =>
              rw [k] at e'
              obtain ⟨h1, h2⟩ := rs.texts k
              subst h1
              exact fin xs' p h2 hw (.inl (.of r)) e'
          | tup ds =>
            obtain ⟨p, ws, rfl, r, rs⟩ := z.tup
            have e' : (match allOf D.asStr ds with | some xs => (if (xs.map List.length).sum + xs.length * a.length ≤ LIM then some (Cell.val (.str (TL.joinL a xs))) else none) | none => none) = some c := e
            cases k : allOf D.asStr ds with
            | none => rw [k] at e'; cases e'
            | some xs' =>
              rw [k] at e'
              obtain ⟨h1, h2⟩ := rs.texts k
              subst h1
              exact fin xs' p h2 hw (.inr r.sq) e'
          | _ => cases e
  | _ => cases m <;> cases ds <;> cases e
end
end Bw

set_option Elab.async false
set_option linter.all false
set_option maxRecDepth 100000
/-! Bw9: built-in functions and methods called, subscripts, isinstance, calls. -/
namespace Bw
open PySem PySem.Spec PyProof.Rows L2

section
variable {X : Cx} {W : WX} {a b e : Expr} {es : List Expr} {pos p apos cpos : Pos} {ra rb rc : Env → Res Cell} {rs : Env → Res (List D)}
def Bi.nm : Bi → Str
  | .len => "len"
  | .abs => "abs"
  | .int => "int"
  | .all => "all"
  | .any => "any"
  | .tuple => "tuple"
  | .list => "list"
  | .sum => "sum"
  | .max2 => "max"
  | .min2 => "min"
  | .str => "str"
theorem Bi.boot (b : Bi) : bootBuiltins b.nm = some b.val := by
  cases b <;> decide +kernel
theorem Bi.nn (b : Bi) : b.nm ≠ "__name__" := by cases b <;> decide
theorem Bi.nd (b : Bi) : (b.nm == ("__debug__" : Str)) = false := by cases b <;> decide
/-- a built-in called -/
theorem pe_biR (b : Bi) {r : List V → Hp → VK → Prop} {t : TA} (hc : CallR X b.val r) (hg : Gl X b.nm) (hm : X.mg b.nm = none) (ha : PA X (e :: es) t)
    (he : starEach (e :: es) X.env = (false, eval e X.env) :: starEach es X.env) (hpl : (backTo pos (starEach es X.env)).any (·.1) = false) : PE X (.Call (.Name b.nm p) (e :: es) [] pos) (tCB r t) := by
  have hv := b.boot
  have h1 := b.nn
  have h2 := b.nd
  cases b
  · exact pe_callB hc hg hm hv ha h1 h2 he hpl
  · exact pe_callB hc hg hm hv ha h1 h2 he hpl
  · exact pe_callTy hc hg hm hv ha h1 h2 he hpl
  · exact pe_callB hc hg hm hv ha h1 h2 he hpl
  · exact pe_callB hc hg hm hv ha h1 h2 he hpl
  · exact pe_callTy hc hg hm hv ha h1 h2 he hpl
  · exact pe_callTy hc hg hm hv ha h1 h2 he hpl
  · exact pe_callB hc hg hm hv ha h1 h2 he hpl
  · exact pe_callB hc hg hm hv ha h1 h2 he hpl
  · exact pe_callB hc hg hm hv ha h1 h2 he hpl
  · exact pe_callTy hc hg hm hv ha h1 h2 he hpl
theorem pe_biE (g : Gd X) (b : Bi) (hg : Gl X b.nm) (hm : X.mg b.nm = none) (ha : PA X (e :: es) (tA X W rs)) (he : starEach (e :: es) X.env = (false, eval e X.env) :: starEach es X.env) (hpl : (backTo pos (starEach es X.env)).any (·.1) = false) :
    PE X (.Call (.Name b.nm p) (e :: es) [] pos) (tE X W (fun ρ => (rs ρ).bind fun ds ρ => .of (b.run ds) ρ)) :=
  (pe_biR b (bi_ok g b) hg hm ha he hpl).impB fun pins s σ H Q I ⟨R, ρ, F, rel, hm⟩ => tA.bind rel hm fun ds ρ1 xs H1 F1 rel1 vs st h1 => by
    obtain ⟨c, e1, h⟩ := Aim.of h1
    exact ⟨_, ds, c, vs.ars, e1, fun w H' nw => h w H' (nw.pv rel1 .refl)⟩
/-- a name's own list, looked at -/
theorem Rel.look {K : PySem.W.Frag} {mg : Str → Option Value} {R : Av} {ρ : Env} {σ : L2.St} {H : Hp} {F : List Addr} {i : Nat} {c : Cell} (rel : Rel K mg R ρ σ H F) (e : ρ.get i = some c) : ∃ v, σ[i]? = some (some v) ∧ AR K mg (fun p => p ∈ F ∨ R p) H c.frz v := by
  have hi := Env.get_eq e
  obtain ⟨c', v, Fi, G, e1, e2, pm, s, _⟩ := rel.er.at i (List.getElem?_eq_some_iff.mp hi).1
  rw [hi] at e1
  cases e1
  cases v with
  | none => exact s.elim
  | some v =>
    refine ⟨v, e2, ?_⟩
    cases c with
    | val d => exact .of s.2
    | own ds =>
      obtain ⟨p, ws, _, rfl, hp, rs⟩ := s
      exact .pk hp rs
theorem pe_biPE (g : Gd X) (b : Bi) {i : Nat} {x : Str} {q : Pos} (hg : Gl X b.nm) (hm : X.mg b.nm = none) (hN : X.N[i]? = some x) (hv : Vis X.env.scope x) (hd : (x == ("__debug__" : Str)) = false) (hcd : (x == ("__classdict__" : Str)) = false) :
    PE X (.Call (.Name b.nm p) [.Name x q] [] pos) (tE X W (fun ρ => match ρ.get i with | some c => .of (b.run [c.frz]) ρ | none => .no)) :=
  (pe_biR b (bi_ok g b) hg hm (pa_cons (pe_var hN hv hd hcd) pa_nil) rfl rfl).impB fun pins s σ H Q I ⟨R, ρ, F, rel, hm⟩ => by
    dsimp only at hm
    cases e : ρ.get i with
    | none => rw [e] at hm; exact hm.elim
    | some c =>
      rw [e] at hm
      obtain ⟨v, e2, ar⟩ := rel.look e
      obtain ⟨c', e1, h⟩ := Aim.of hm
      exact ⟨v, e2, _, [c.frz], c', .cons ar .nil, e1, fun w H' nw => h w H' (nw.pv rel .refl)⟩

/-! ### methods of texts -/
theorem mt_call (m : Mt) (he : m.easy = true) {to : TE} {t : TA} (ho : PE X a to) (ha : PA X (e :: es) t) (hbase : attributeBase a m.nm X.env (eval a X.env) = eval a X.env)
    (hfew : ((backTo cpos (starEach (e :: es) X.env)).all (fun x => !x.1) && (backToKw cpos (keywordEach [] X.env)).all (fun x => x.1.isSome)
      && decide ((e :: es).length + ([] : List Keyword).length + (if ([] : List Keyword).isEmpty then 0 else 1) < 30)) = true)
    (hline : (apos.endLine == cpos.line) = true) (hs : starEach (e :: es) X.env = (false, eval e X.env) :: starEach es X.env) (hplain : (backTo cpos (starEach es X.env)).any (·.1) = false) :
    PE X (.Call (.Attribute a m.nm apos) (e :: es) [] cpos) (tBM X.K "str" (rMt X m) to t) := by
  have hr := mt_ok (X := X) m he
  cases m
  · exact pe_bm PySem.F.plainAttrs_str PySem.F.slot_str_find PySem.F.type_str_find hr ho ha hbase hfew hline hs hplain
  · cases he
  · exact pe_bm PySem.F.plainAttrs_str PySem.F.slot_str_split PySem.F.type_str_split hr ho ha hbase hfew hline hs hplain
  · exact pe_bm PySem.F.plainAttrs_str PySem.F.slot_str_split PySem.F.type_str_split hr ho ha hbase hfew hline hs hplain
  · exact pe_bm PySem.F.plainAttrs_str PySem.F.slot_str_join PySem.F.type_str_join hr ho ha hbase hfew hline hs hplain
  · exact pe_bm PySem.F.plainAttrs_str PySem.F.slot_str_rstrip PySem.F.type_str_rstrip hr ho ha hbase hfew hline hs hplain
  · exact pe_bm PySem.F.plainAttrs_str PySem.F.slot_str_rstrip PySem.F.type_str_rstrip hr ho ha hbase hfew hline hs hplain
  · exact pe_bm PySem.F.plainAttrs_str PySem.F.slot_str_index PySem.F.type_str_index hr ho ha hbase hfew hline hs hplain
  · exact pe_bm PySem.F.plainAttrs_str PySem.F.slot_str_strip PySem.F.type_str_strip hr ho ha hbase hfew hline hs hplain
  · exact pe_bm PySem.F.plainAttrs_str PySem.F.slot_str_count PySem.F.type_str_count hr ho ha hbase hfew hline hs hplain
  · exact pe_bm PySem.F.plainAttrs_str PySem.F.slot_str_startswith PySem.F.type_str_startswith hr ho ha hbase hfew hline hs hplain
theorem mt_call0 (m : Mt) (he : m.easy = true) {to : TE} (ho : PE X a to) (hbase : attributeBase a m.nm X.env (eval a X.env) = eval a X.env) (hline : (apos.endLine == cpos.line) = true) :
    PE X (.Call (.Attribute a m.nm apos) [] [] cpos) (tBM0 X.K "str" (rMt X m) to) := by
  have hr := mt_ok (X := X) m he
  cases m
  · exact pe_bm0 PySem.F.plainAttrs_str PySem.F.slot_str_find PySem.F.type_str_find hr ho hbase hline
  · cases he
  · exact pe_bm0 PySem.F.plainAttrs_str PySem.F.slot_str_split PySem.F.type_str_split hr ho hbase hline
  · exact pe_bm0 PySem.F.plainAttrs_str PySem.F.slot_str_split PySem.F.type_str_split hr ho hbase hline
  · exact pe_bm0 PySem.F.plainAttrs_str PySem.F.slot_str_join PySem.F.type_str_join hr ho hbase hline
  · exact pe_bm0 PySem.F.plainAttrs_str PySem.F.slot_str_rstrip PySem.F.type_str_rstrip hr ho hbase hline
  · exact pe_bm0 PySem.F.plainAttrs_str PySem.F.slot_str_rstrip PySem.F.type_str_rstrip hr ho hbase hline
  · exact pe_bm0 PySem.F.plainAttrs_str PySem.F.slot_str_index PySem.F.type_str_index hr ho hbase hline
  · exact pe_bm0 PySem.F.plainAttrs_str PySem.F.slot_str_strip PySem.F.type_str_strip hr ho hbase hline
  · exact pe_bm0 PySem.F.plainAttrs_str PySem.F.slot_str_count PySem.F.type_str_count hr ho hbase hline
  · exact pe_bm0 PySem.F.plainAttrs_str PySem.F.slot_str_startswith PySem.F.type_str_startswith hr ho hbase hline
theorem pe_mtE (m : Mt) (he : m.easy = true) (ho : PE X a (tE X W ra)) (ha : PA X (e :: es) (tA X W rs)) (hbase : attributeBase a m.nm X.env (eval a X.env) = eval a X.env)
    (hfew : ((backTo cpos (starEach (e :: es) X.env)).all (fun x => !x.1) && (backToKw cpos (keywordEach [] X.env)).all (fun x => x.1.isSome)
      && decide ((e :: es).length + ([] : List Keyword).length + (if ([] : List Keyword).isEmpty then 0 else 1) < 30)) = true)
    (hline : (apos.endLine == cpos.line) = true) (hs : starEach (e :: es) X.env = (false, eval e X.env) :: starEach es X.env) (hplain : (backTo cpos (starEach es X.env)).any (·.1) = false) :
    PE X (.Call (.Attribute a m.nm apos) (e :: es) [] cpos) (tE X W (fun ρ => (ra ρ).bind fun x ρ => match x.frz with
      | .str a => (rs ρ).bind fun ds ρ => .of (m.run (.str a) ds) ρ
      | _ => .no)) :=
  (mt_call m he ho ha hbase hfew hline hs hplain).impB fun pins s σ H Q I ⟨R, ρ, F, rel, hm⟩ => tE.bind rel hm fun c ρ1 x H1 F1 rel1 v st h1 => by
    cases q : c.frz with
    | str a =>
      rw [q] at h1 v
      obtain ⟨rfl, ok⟩ := v
      refine ⟨rfl, tA.bind rel1 h1 fun ds ρ2 xs H2 F2 rel2 vs st2 h2 => ?_⟩
      obtain ⟨c2, e2, h⟩ := Aim.of h2
      exact ⟨_, .str a, ds, c2, ⟨rfl, ok⟩, vs.ars, e2, fun w H' nw => h w H' (nw.pv rel2 .refl)⟩
    | _ => rw [q] at h1; exact h1.elim
theorem pe_mt0E (m : Mt) (he : m.easy = true) (ho : PE X a (tE X W ra)) (hbase : attributeBase a m.nm X.env (eval a X.env) = eval a X.env) (hline : (apos.endLine == cpos.line) = true) :
    PE X (.Call (.Attribute a m.nm apos) [] [] cpos) (tE X W (fun ρ => (ra ρ).bind fun x ρ => match x.frz with
      | .str a => (Res.ok [] ρ : Res (List D)).bind fun ds ρ => .of (m.run (.str a) ds) ρ
      | _ => .no)) :=
  (mt_call0 m he ho hbase hline).impB fun pins s σ H Q I ⟨R, ρ, F, rel, hm⟩ => tE.bind rel hm fun c ρ1 x H1 F1 rel1 v st h1 => by
    cases q : c.frz with
    | str a =>
      rw [q] at h1 v
      obtain ⟨rfl, ok⟩ := v
      obtain ⟨c2, e2, h⟩ := Aim.of (show Aim X W R σ H1 F1 _ (Res.of (m.run (.str a) []) ρ1) from h1)
      exact ⟨rfl, _, .str a, [], c2, ⟨rfl, ok⟩, .nil, e2, fun w H' nw => h w H' (nw.pv rel1 .refl)⟩
    | _ => rw [q] at h1; exact h1.elim
theorem pe_mtPE (m : Mt) (he : m.easy = true) {i : Nat} {x : Str} {q : Pos} (ho : PE X a (tE X W ra)) (hN : X.N[i]? = some x) (hv : Vis X.env.scope x) (hd : (x == ("__debug__" : Str)) = false) (hcd : (x == ("__classdict__" : Str)) = false)
    (hbase : attributeBase a m.nm X.env (eval a X.env) = eval a X.env) (hline : (apos.endLine == cpos.line) = true) :
    PE X (.Call (.Attribute a m.nm apos) [.Name x q] [] cpos) (tE X W (fun ρ => (ra ρ).bind fun x ρ => match x.frz with
      | .str a => (match ρ.get i with
        | some c => .of (m.run (.str a) [c.frz]) ρ
        | none => .no)
      | _ => .no)) :=
  (mt_call m he ho (pa_cons (pe_var hN hv hd hcd) pa_nil) hbase rfl hline rfl rfl).impB fun pins s σ H Q I ⟨R, ρ, F, rel, hm⟩ => tE.bind rel hm fun c ρ1 x H1 F1 rel1 v st h1 => by
    cases q : c.frz with
    | str a =>
      rw [q] at h1 v
      obtain ⟨rfl, ok⟩ := v
      cases e : ρ1.get i with
      | none => simp only [e] at h1; exact h1.elim
      | some c2 =>
        simp only [e] at h1
        obtain ⟨v2, e2, ar⟩ := rel1.look e
        obtain ⟨c3, e3, h⟩ := Aim.of h1
        exact ⟨rfl, v2, e2, _, .str a, [c2.frz], c3, ⟨rfl, ok⟩, .cons ar .nil, e3, fun w H' nw => h w H' (nw.pv rel1 .refl)⟩
    | _ => rw [q] at h1; exact h1.elim

/-! ### subscripts -/
theorem atI_map {α β : Type} (f : α → β) (xs : List α) (i : Int) : L2.atI (xs.map f) i = (L2.atI xs i).map f := by
  unfold L2.atI
  rw [List.length_map]
  cases ixN xs.length i with
  | none => rfl
  | some j => simp
theorem atI_mem {α : Type} {xs : List α} {i : Int} {v : α} (h : L2.atI xs i = some v) : v ∈ xs := by
  obtain ⟨j, _, e, _⟩ := atI_get h
  exact List.mem_of_getElem? e
theorem idx_ok {σ : L2.St} {H : Hp} {Q : VK} (h : tE X W (fun ρ => (ra ρ).bind fun x ρ => (rb ρ).bind fun y ρ => .of ((x.frz.idx y.frz).map .val) ρ) σ H Q) : tOp (fun x y H Q => rIxL X.K x y H Q ∨ rIxT X.K x y H Q ∨ rIxS x y H Q) (tE X W ra) (tE X W rb) σ H Q :=
  let ⟨R, ρ, F, rel, hm⟩ := h
  tE.bind rel hm fun c ρ1 x H1 F1 rel1 v st h1 => tE.bind rel1 h1 fun c2 ρ2 y H2 F2 rel2 v2 st2 h2 => by
    have v' := v.evo (st2.evo R)
    obtain ⟨z, ez, h⟩ := Aim.of h2
    cases q2 : c2.frz with
    | int i =>
      rw [q2] at v2 ez
      obtain rfl : y = .int i := v2
      cases q : c.frz with
      | tup ds =>
        rw [q] at v' ez
        obtain ⟨p, ws, rfl, r, rs⟩ := v'
        have ez' : (L2.atI ds i).map Cell.val = some z := ez
        cases k : L2.atI ds i with
        | none => rw [k] at ez'; cases ez'
        | some d =>
          rw [k] at ez'
          cases ez'
          obtain ⟨w, hw, vw⟩ := rs.atI k
          exact .inr (.inl ⟨p, ws, i, w, rfl, rfl, r.sq, hw, h w H2 ((New.val vw).pv rel2 .refl)⟩)
      | lst ds =>
        rw [q] at v' ez
        obtain ⟨p, ws, rfl, r, rs⟩ := v'
        have ez' : (L2.atI ds i).map Cell.val = some z := ez
        cases k : L2.atI ds i with
        | none => rw [k] at ez'; cases ez'
        | some d =>
          rw [k] at ez'
          cases ez'
          obtain ⟨w, hw, vw⟩ := rs.atI k
          exact .inl ⟨p, ws, i, w, rfl, rfl, .of r.1, hw, h w H2 ((New.val vw).pv rel2 .refl)⟩
      | scr ns =>
        rw [q] at v' ez
        obtain ⟨p, rfl, r⟩ := v'
        have ez' : ((L2.atI ns i).map D.int).map Cell.val = some z := ez
        cases k : L2.atI ns i with
        | none => rw [k] at ez'; cases ez'
        | some d =>
          rw [k] at ez'
          cases ez'
          have hv : VR X.K X.mg (fun p => p ∈ F2 ∨ R p) H2 (.int d) (.int d) := rfl
          exact .inl ⟨p, _, i, .int d, rfl, rfl, r.sq, by rw [atI_map, k]; rfl, h _ H2 ((New.val hv).pv rel2 .refl)⟩
      | str s =>
        rw [q] at v' ez
        obtain ⟨rfl, ok⟩ := v'
        have ez' : ((L2.atI s i).map fun c => D.str [c]).map Cell.val = some z := ez
        cases k : L2.atI s i with
        | none => rw [k] at ez'; cases ez'
        | some d =>
          rw [k] at ez'
          cases ez'
          have hv : VR X.K X.mg (fun p => p ∈ F2 ∨ R p) H2 (.str [d]) (.str ⟨[d].toArray⟩) := ⟨rfl, by simp [LIM], fun c hc => by rw [List.mem_singleton.mp hc]; exact ok.2 d (atI_mem k)⟩
          exact .inr (.inr ⟨⟨s.toArray⟩, i, d, rfl, rfl, by rw [lim_eq, str_len]; exact ok.1, k, h _ H2 ((New.val hv).pv rel2 .refl)⟩)
      | _ => rw [q] at ez; cases ez
    | _ => rw [q2] at ez; cases q : c.frz <;> rw [q] at ez <;> cases ez
theorem pe_idxE (ha : PE X a (tE X W ra)) (hb : PE X b (tE X W rb)) (hs : PlainIx b) : PE X (.Subscript a b pos) (tE X W (fun ρ => (ra ρ).bind fun x ρ => (rb ρ).bind fun y ρ => .of ((x.frz.idx y.frz).map .val) ρ)) :=
  (pe_ix ix_seq ha hb hs).impB fun pins s σ H Q I h => idx_ok h
theorem po_nonE : PO X none (tO X W (fun ρ => .ok none ρ)) := ⟨fun pins s σ H Q I ⟨R, ρ, F, rel, hm⟩ => po_none.run pins s σ H Q I (hm H ⟨F, rel, .refl⟩)⟩
theorem po_somE (ha : PE X a (tE X W ra)) : PO X (some a) (tO X W (fun ρ => (ra ρ).bind fun c ρ => match c.frz with | .int i => .ok (some i) ρ | _ => .no)) := ⟨fun pins s σ H Q I ⟨R, ρ, F, rel, hm⟩ => (po_some ha).run pins s σ H Q I (by
  refine ⟨R, ρ, F, rel, (Aim.fst hm).imp fun c ρ1 h u H1 pv => ?_⟩
  obtain ⟨F1, rel1, v, st⟩ := pv.frz
  cases q : c.frz with
  | int i =>
    rw [q] at h v
    exact ⟨i, v, h H1 ⟨F1, rel1, st⟩⟩
  | _ => rw [q] at h; exact h.elim)⟩
theorem cutL_sub {s : List Nat} (ok : okS s) (lo hi : Option Int) : okS (cutL s lo hi) := ok.sub (by unfold cutL; rw [List.length_take, List.length_drop]; omega) fun c hc => by
  unfold cutL at hc
  exact List.mem_of_mem_drop (List.mem_of_mem_take hc)
theorem pe_slcE {lo hi : Option Expr} {p2 : Pos} {rl rh : Env → Res (Option Int)} (ha : PE X a (tE X W ra)) (hl : PO X lo (tO X W rl)) (hh : PO X hi (tO X W rh)) :
    PE X (.Subscript a (.Slice lo hi none p2) pos) (tE X W (fun ρ => (ra ρ).bind fun x ρ => (rl ρ).bind fun l ρ => (rh ρ).bind fun h ρ => .of (x.frz.slc l h) ρ)) :=
  (pe_slice (sl_list.or (sl_tupA.or sl_str)) ha hl hh).impB fun pins s σ H Q I ⟨R, ρ, F, rel, hm⟩ => tE.bind rel hm fun c ρ1 x H1 F1 rel1 v st h1 => tO.bind rel1 h1 fun l ρ2 H2 F2 rel2 st2 h2 => tO.bind rel2 h2 fun u ρ3 H3 F3 rel3 st3 h3 => by
    have v' := (v.evo (st2.evo R)).evo (st3.evo R)
    obtain ⟨z, ez, h⟩ := Aim.of h3
    cases q : c.frz with
    | tup ds =>
      rw [q] at v' ez
      obtain ⟨p, ws, rfl, r, rs⟩ := v'
      have ez' : (if HT.sIx ds.length 0 l = 0 ∧ HT.sIx ds.length ds.length u = ds.length then some (Cell.val (.tup ds)) else some (.val (.tup (cutL ds l u)))) = some z := ez
      refine .inr (.inl ⟨p, ws, rfl, r.sq, fun w => ?_, fun w t n => ?_⟩)
      · rw [← rs.length] at w
        rw [if_pos w] at ez'
        cases ez'
        have hv : VR X.K X.mg (fun p => p ∈ F3 ∨ R p) H3 (.tup ds) (.ref p) := ⟨p, ws, rfl, r, rs⟩
        exact h _ H3 ((New.val hv).pv rel3 .refl)
      · rw [← rs.length] at w
        rw [if_neg w] at ez'
        cases ez'
        exact h _ _ ((New.tup n (rs.cut l u)).pv rel3 .refl)
    | lst ds =>
      rw [q] at v' ez
      obtain ⟨p, ws, rfl, r, rs⟩ := v'
      cases ez
      exact .inl ⟨p, ws, rfl, .of r.1, fun t n => h _ _ ((New.own n (rs.cut l u)).pv rel3 .refl)⟩
    | str s =>
      rw [q] at v' ez
      obtain ⟨rfl, ok⟩ := v'
      cases ez
      have hv : VR X.K X.mg (fun p => p ∈ F3 ∨ R p) H3 (.str (cutL s l u)) (.str (cutS ⟨s.toArray⟩ l u)) := by
        refine ⟨?_, cutL_sub ok l u⟩
        unfold cutS cutL
        rw [str_len]
      exact .inr (.inr ⟨⟨s.toArray⟩, rfl, by rw [lim_eq, str_len]; exact ok.1, h _ H3 ((New.val hv).pv rel3 .refl)⟩)
    | _ => rw [q] at ez; cases ez

/-! ### isinstance -/
theorem VR.tyx {K : PySem.W.Frag} {mg : Str → Option Value} {A : Av} {H : Hp} {d : D} {v : V} {n : String} (h : VR K mg A H d v) (e : d.typ = some n) : TyX K H v (.type n) := by
  cases d with
  | non => cases e; obtain rfl : v = .non := h; exact .base .non
  | bl b => cases e; obtain rfl : v = .bl b := h; exact .base (.bl b)
  | int b => cases e; obtain rfl : v = .int b := h; exact .base (.int b)
  | str b => cases e; obtain ⟨rfl, _⟩ := h; exact .base (.str _)
  | tup ds =>
    cases e
    obtain ⟨p, ws, rfl, r, rs⟩ := h
    rcases r with ⟨r | ⟨o, r⟩, _⟩ | ⟨o, its, n, h1, h2, _⟩
    · exact .base (.tup r)
    · exact .fTuple r
    · exact .kTuple h1 h2
  | lst ds =>
    cases e
    obtain ⟨p, ws, rfl, r, rs⟩ := h
    exact .base (.lst r.1)
  | _ => cases e
theorem pe_isiE {n : String} {x : Str} {q : Pos} (hg : Gl X "isinstance") (hm : X.mg "isinstance" = none) (hx : Gl X x) (hmx : X.mg x = none) (hv : bootBuiltins x = some (.type n)) (hn : x ≠ "__name__") (hd : (x == ("__debug__" : Str)) = false) (ha : PE X a (tE X W ra))
    (he : starEach [a, .Name x q] X.env = (false, eval a X.env) :: starEach [.Name x q] X.env) :
    PE X (.Call (.Name "isinstance" p) [a, .Name x q] [] pos) (tE X W (fun ρ => (ra ρ).bind fun x ρ => .of ((x.frz.typ.bind fun t => L2.kitB t n).map fun k => .val (.bl k)) ρ)) :=
  (pe_callB call_isi hg hm PyProof.Rows.boot_isinstance (pa_cons ha (pa_cons (pe_bltn (v := .ty n) hx hmx hv rfl hn hd) pa_nil) he) (by decide) (by decide) he rfl).impB fun pins s σ H Q I ⟨R, ρ, F, rel, hm⟩ => tE.bind rel hm fun c ρ1 x H1 F1 rel1 v st h1 => by
    obtain ⟨z, ez, h⟩ := Aim.of h1
    cases k : c.frz.typ with
    | none => rw [k] at ez; cases ez
    | some t =>
      rw [k] at ez
      have ez' : (L2.kitB t n).map (fun k => Cell.val (.bl k)) = some z := ez
      cases k2 : L2.kitB t n with
      | none => rw [k2] at ez'; cases ez'
      | some b =>
        rw [k2] at ez'
        cases ez'
        exact ⟨x, .ty n, .type t, .type n, b, rfl, .ty n, v.tyx k, L2.kit_ty k2, h _ H1 ((New.val (show VR X.K X.mg (fun p => p ∈ F1 ∨ R p) H1 (.bl b) (.bl b) from rfl)).pv rel1 .refl)⟩
end
end Bw

set_option Elab.async false
set_option linter.all false
set_option maxRecDepth 100000
/-! Bw10: slots that are stored, forgotten, brought back; targets; what is walked. -/
namespace Bw
open PySem PySem.Spec PyProof.Rows L2

section
variable {K : PySem.W.Frag} {mg : Str → Option Value} {A R : Av} {σ σ' : L2.St} {H : Hp} {ρ ρ0 : Env} {F : List Addr}
/-- a slot is filled anew -/
theorem Rel.set {c' : Option Cell} {v' : Option V} {F1 : List Addr} (i : Nat) (rel : Rel K mg (fun p => p ∈ F1 ∨ R p) ρ σ H F) (s : SR K mg (fun p => p ∈ F ∨ (p ∈ F1 ∨ R p)) H c' v' F1) (nd : F1.Nodup) (ap : ∀ p ∈ F1, ¬ R p) :
    ∃ F', (∀ p ∈ F', p ∈ F1 ∨ p ∈ F) ∧ Rel K mg R (ρ.set i c') (σ.set i v') H F' := by
  by_cases hi : i < ρ.length
  · obtain ⟨c, v, Fi, G, e1, e2, pm, s0, put⟩ := rel.er.at i hi
    have mF : ∀ p, p ∈ F ↔ p ∈ Fi ∨ p ∈ G := fun p => by rw [pm.mem_iff, List.mem_append]
    have hA : ∀ p, (p ∈ F1 ∨ p ∈ G) ∨ R p → p ∈ F ∨ (p ∈ F1 ∨ R p) := fun p z => by
      rcases z with (z | z) | z
      · exact .inr (.inl z)
      · exact .inl ((mF p).mpr (.inr z))
      · exact .inr (.inr z)
    have ev : Evo (fun p => p ∈ F ∨ (p ∈ F1 ∨ R p)) H (fun p => (p ∈ F1 ∨ p ∈ G) ∨ R p) H := ⟨fun _ _ q _ => q, fun b q => .inl (hA b q)⟩
    obtain ⟨F', pm', er'⟩ := put (A' := fun p => (p ∈ F1 ∨ p ∈ G) ∨ R p) (H' := H) c' v' F1 ev (fun _ _ _ q => q) (s.evo ev fun _ _ _ q => q)
    have mF' : ∀ p, p ∈ F' ↔ p ∈ F1 ∨ p ∈ G := fun p => by rw [pm'.mem_iff, List.mem_append]
    have nG : G.Nodup := (List.nodup_append.mp (pm.nodup_iff.mp rel.nd)).2.1
    refine ⟨F', fun p hp => ((mF' p).mp hp).elim .inl fun z => .inr ((mF p).mpr (.inr z)), ?_, ?_, fun p hp z => ?_, fun p z => rel.lv p (.inr z)⟩
    · exact er'.evo ⟨fun _ _ q _ => q, fun b q => .inl (q.elim (fun z => .inl ((mF' b).mp z)) .inr)⟩ fun _ _ _ q => q
    · rw [pm'.nodup_iff, List.nodup_append]
      refine ⟨nd, nG, fun a ha b hb e => ?_⟩
      subst e
      exact rel.ap a ((mF a).mpr (.inr hb)) (.inl ha)
    · rcases (mF' p).mp hp with y | y
      · exact ap p y z
      · exact rel.ap p ((mF p).mpr (.inr y)) (.inr z)
  · refine ⟨F, fun p hp => .inr hp, ?_⟩
    have hl := rel.er.length
    rw [List.set_eq_of_length_le (Nat.le_of_not_lt hi), List.set_eq_of_length_le (by rw [← hl]; exact Nat.le_of_not_lt hi)]
    exact rel.mono fun p z => .inr z
theorem Rel.under (rel : Rel K mg R ρ σ H F) : Rel K mg (fun p => p ∈ ([] : List Addr) ∨ R p) ρ σ H F := rel.mono fun p z => z.elim (fun q => nomatch q) id
theorem Rel.set0 {c' : Option Cell} {v' : Option V} (i : Nat) (rel : Rel K mg R ρ σ H F) (s : SR K mg (fun p => p ∈ F ∨ R p) H c' v' []) : ∃ F', (∀ p ∈ F', p ∈ F) ∧ Rel K mg R (ρ.set i c') (σ.set i v') H F' := by
  obtain ⟨F', h1, h2⟩ := Rel.set i rel.under (s.evo ⟨fun _ _ q _ => q, fun b q => .inl (q.elim .inl fun z => z.elim (fun y => nomatch y) .inr)⟩ fun _ _ _ q => q) List.nodup_nil (fun _ z => nomatch z)
  exact ⟨F', fun p hp => (h1 p hp).elim (fun y => nomatch y) id, h2⟩
theorem Rel.put {d : D} {v : V} (i : Nat) (rel : Rel K mg R ρ σ H F) (r : VR K mg (fun p => p ∈ F ∨ R p) H d v) : ∃ F', (∀ p ∈ F', p ∈ F) ∧ Rel K mg R (ρ.set i (some (.val d))) (σ.set i (some v)) H F' := rel.set0 i ⟨rfl, r⟩
theorem Stp.sub {F' : List Addr} (h : ∀ p ∈ F', p ∈ F) : Stp F H F' H := ⟨fun _ _ q _ => q, fun _ q => q, fun b hb => .inl (h b hb)⟩
theorem Rel.shrink {F' : List Addr} (h : ∀ p ∈ F', p ∈ F) {d : D} {v : V} (r : VR K mg (fun p => p ∈ F ∨ R p) H d v) : VR K mg (fun p => p ∈ F' ∨ R p) H d v := r.evo ((Stp.sub h).evo R)
theorem Rel.wipes (rel : Rel K mg R ρ σ H F) : ∀ vs : List Nat, ∃ F', (∀ p ∈ F', p ∈ F) ∧ Rel K mg R (wipeE ρ vs) (wipe σ vs) H F'
  | [] => ⟨F, fun _ h => h, rel⟩
  | v :: vs => by
    obtain ⟨F1, h1, r1⟩ := rel.wipes vs
    obtain ⟨F2, h2, r2⟩ := r1.set0 (c' := none) (v' := none) v rfl
    exact ⟨F2, fun p hp => h1 p (h2 p hp), r2⟩
def backS (σ σ' : L2.St) : List Nat → L2.St
  | [] => σ'
  | v :: vs => (backS σ σ' vs).set v (σ[v]?).join
theorem Rel.backs (rel : Rel K mg R ρ σ' H F) : ∀ vs : List Nat, (∀ v ∈ vs, SR K mg (fun p => p ∈ F ∨ R p) H (ρ0.get v) (σ[v]?).join []) → ∃ F', (∀ p ∈ F', p ∈ F) ∧ Rel K mg R (backE ρ0 ρ vs) (backS σ σ' vs) H F'
  | [], _ => ⟨F, fun _ h => h, rel⟩
  | v :: vs, hs => by
    obtain ⟨F1, h1, r1⟩ := rel.backs vs fun v hv => hs v (List.mem_cons_of_mem _ hv)
    obtain ⟨F2, h2, r2⟩ := r1.set0 (c' := ρ0.get v) (v' := (σ[v]?).join) v ((hs v List.mem_cons_self).evo ((Stp.sub h1).evo R) fun _ _ _ q => q)
    exact ⟨F2, fun p hp => h1 p (h2 p hp), r2⟩
theorem wipe_get (σ : L2.St) (j : Nat) : ∀ vs : List Nat, (wipe σ vs)[j]? = if j ∈ vs then (if j < σ.length then some none else none) else σ[j]?
  | [] => by simp [wipe]
  | v :: vs => by
    unfold wipe
    rw [List.getElem?_set, wipe_length, wipe_get σ j vs]
    by_cases h : v = j
    · subst h; simp
    · simp [h, Ne.symm h]
theorem wipe_set {v : Nat} {vs : List Nat} {x : Option V} (h : v ∈ vs) : wipe (σ.set v x) vs = wipe σ vs := by
  apply List.ext_getElem?
  intro j
  rw [wipe_get, wipe_get, List.length_set]
  by_cases hj : j ∈ vs
  · rw [if_pos hj, if_pos hj]
  · rw [if_neg hj, if_neg hj, List.getElem?_set_ne (show v ≠ j from fun e => hj (e ▸ h))]
theorem backS_get (j : Nat) (hl : σ.length = σ'.length) : ∀ vs : List Nat, (backS σ σ' vs)[j]? = if j ∈ vs then σ[j]? else σ'[j]?
  | [] => by simp [backS]
  | v :: vs => by
    have hb : (backS σ σ' vs).length = σ.length := by
      have : ∀ vs : List Nat, (backS σ σ' vs).length = σ'.length := by
        intro vs
        induction vs with
        | nil => rfl
        | cons v vs ih => unfold backS; rw [List.length_set, ih]
      rw [this, hl]
    unfold backS
    rw [List.getElem?_set, hb, backS_get j hl vs]
    by_cases h : v = j
    · subst h
      by_cases hv : v < σ.length
      · simp [hv]
      · simp [hv]
    · simp [h, Ne.symm h]
theorem backS_eq {vs : List Nat} (h : wipe σ' vs = wipe σ vs) : backS σ σ' vs = σ := by
  have hl : σ.length = σ'.length := by
    have := congrArg List.length h
    rw [wipe_length, wipe_length] at this
    exact this.symm
  apply List.ext_getElem?
  intro j
  rw [backS_get j hl]
  by_cases hj : j ∈ vs
  · rw [if_pos hj]
  · rw [if_neg hj]
    have this : (wipe σ' vs)[j]? = (wipe σ vs)[j]? := by rw [h]
    rw [wipe_get, wipe_get, if_neg hj, if_neg hj] at this
    exact this
/-- what stands in a free slot -/
theorem Rel.slot {v : Nat} (rel : Rel K mg R ρ σ H F) (h : ∀ ds, ρ.get v ≠ some (.own ds)) : SR K mg (fun p => p ∈ F ∨ R p) H (ρ.get v) (σ[v]?).join [] := by
  cases e : ρ.get v with
  | none => rfl
  | some c =>
    cases c with
    | own ds => exact absurd e (h ds)
    | val d =>
      obtain ⟨w, e2, r⟩ := rel.val e
      rw [e2]
      exact ⟨rfl, r⟩
theorem Tg.free_ok {t : Tg} (h : t.free ρ = true) : ∀ v ∈ t.ixs, ∀ ds, ρ.get v ≠ some (.own ds) := fun v hv ds e => by
  have q := List.all_eq_true.mp h v hv
  rw [e] at q
  cases q
end

/-! ### targets -/
def gNames : List Nat → TGs
  | [] => gNil
  | i :: is => gCons (gName i) (gNames is)
def gTg (K : PySem.W.Frag) : Tg → TG
  | .nm i => gName i
  | .tp is => gTup K is.length (gNames is)
section
variable {K : PySem.W.Frag} {mg : Str → Option Value} {R : Av} {H : Hp}
theorem gNames_ok {Q : L2.St → Hp → Prop} {F0 : List Addr} {σ0 : L2.St} {vs : List Nat} : ∀ {is : List Nat} {ds : List D} {ws : List V} {ρ : Env} {σ : L2.St} {F : List Addr}, is.length = ds.length → (∀ i ∈ is, i ∈ vs) → (∀ p ∈ F, p ∈ F0) → wipe σ vs = wipe σ0 vs → Rel K mg R ρ σ H F → VRs K mg (fun p => p ∈ F ∨ R p) H ds ws →
    (∀ σ1 F1, Rel K mg R ((is.zip ds).foldl (fun ρ p => ρ.set p.1 (some (.val p.2))) ρ) σ1 H F1 → (∀ p ∈ F1, p ∈ F0) → wipe σ1 vs = wipe σ0 vs → Q σ1 H) → gNames is ws σ H Q
  | [], [], _, _, σ, F, _, _, h0, hw, rel, r, q => by
    obtain rfl : _ = [] := r
    exact ⟨rfl, q σ F rel h0 hw⟩
  | i :: is, d :: ds, _, ρ, σ, F, hl, hv, h0, hw, rel, r, q => by
    obtain ⟨w, ws', rfl, r1, rs⟩ := r
    obtain ⟨F1, h1, rel1⟩ := rel.put i r1
    refine ⟨w, ws', rfl, gNames_ok (by simpa using hl) (fun j hj => hv j (List.mem_cons_of_mem _ hj)) (fun p hp => h0 p (h1 p hp)) ?_ rel1 (rs.evo ((Stp.sub h1).evo R)) q⟩
    rw [wipe_set (hv i List.mem_cons_self), hw]
  | [], _ :: _, _, _, _, _, hl, _, _, _, _, _, _ => by cases hl
  | _ :: _, [], _, _, _, _, hl, _, _, _, _, _, _ => by cases hl
theorem gTg_ok {t : Tg} {Q : L2.St → Hp → Prop} {ρ ρ1 : Env} {σ : L2.St} {F : List Addr} {d : D} {x : V} (rel : Rel K mg R ρ σ H F) (r : VR K mg (fun p => p ∈ F ∨ R p) H d x) (e : t.put d ρ = some ρ1)
    (q : ∀ σ1 F1, Rel K mg R ρ1 σ1 H F1 → (∀ p ∈ F1, p ∈ F) → wipe σ1 t.ixs = wipe σ t.ixs → Q σ1 H) : gTg K t x σ H Q := by
  cases t with
  | nm i =>
    cases e
    obtain ⟨F1, h1, rel1⟩ := rel.put i r
    exact q _ F1 rel1 h1 (wipe_set (by simp [Tg.ixs]))
  | tp is =>
    cases d with
    | tup ds =>
      obtain ⟨p, ws, rfl, rd, rs⟩ := r
      have e' : (if is.length = ds.length then some ((is.zip ds).foldl (fun ρ p => ρ.set p.1 (some (Cell.val p.2))) ρ) else none) = some ρ1 := e
      split at e'
      · rename_i hl
        cases e'
        exact ⟨p, ws, rfl, rd.sq, by rw [← rs.length, hl], gNames_ok hl (fun i hi => hi) (fun p hp => hp) rfl rel rs q⟩
      · cases e'
    | _ => cases e
end

/-! ### what is walked -/
structure Src (K : PySem.W.Frag) (mg : Str → Option Value) (A : Av) (H : Hp) (J : L2.It) (ds : List D) : Prop where
  go : ∀ i A1 H1, Evo A H A1 H1 → i < ds.length → J.go i H1
  stop : ∀ A1 H1, Evo A H A1 H1 → J.stop ds.length H1
  yld : ∀ i A1 H1 x H2, Evo A H A1 H1 → (∀ p, A1 p → H1 p ≠ none) → i < ds.length → J.yld i H1 x H2 → ∃ d, ds[i]? = some d ∧ VR K mg A1 H2 d x ∧ (∀ b o, H1 b = some o → H2 b = some o)
section
variable {K : PySem.W.Frag} {mg : Str → Option Value} {A : Av} {H : Hp} {J : L2.It} {n : Nat} {G : Hp → Prop} {Y : Nat → Hp → V → Hp → Prop} {ds : List D}
theorem Src.of (w : Walk J n G Y) (hn : n = ds.length) (hG : ∀ A1 H1, Evo A H A1 H1 → G H1)
    (hY : ∀ i A1 H1 x H2, Evo A H A1 H1 → (∀ p, A1 p → H1 p ≠ none) → i < ds.length → Y i H1 x H2 → ∃ d, ds[i]? = some d ∧ VR K mg A1 H2 d x ∧ (∀ b o, H1 b = some o → H2 b = some o)) : Src K mg A H J ds := by
  subst hn
  exact ⟨fun i A1 H1 e hi => w.goes i H1 hi (hG A1 H1 e), fun A1 H1 e => w.stops H1 (hG A1 H1 e), fun i A1 H1 x H2 e lv hi y => hY i A1 H1 x H2 e lv hi (w.yields i H1 x H2 hi (hG A1 H1 e) y)⟩
theorem Src.lst {p : Addr} {ws : List V} (r : RdL K A H p ws) (rs : VRs K mg A H ds ws) : Src K mg A H (Itl K p) ds :=
  .of (walk_list (xs := ws)) rs.length.symm (fun A1 H1 e => (r.evo e).sq) fun i A1 H1 x H2 e lv hi y => by
    obtain ⟨rfl, hx⟩ := y
    obtain ⟨d, hd, vd⟩ := (rs.evo e).get hx
    exact ⟨d, hd, vd, fun _ _ q => q⟩
theorem Src.tup {p : Addr} {ws : List V} (r : RdT K A H p ws) (rs : VRs K mg A H ds ws) : Src K mg A H (Itt K p) ds :=
  .of (walk_tup (xs := ws)) rs.length.symm (fun A1 H1 e => (r.evo e).sq) fun i A1 H1 x H2 e lv hi y => by
    obtain ⟨rfl, hx⟩ := y
    obtain ⟨d, hd, vd⟩ := (rs.evo e).get hx
    exact ⟨d, hd, vd, fun _ _ q => q⟩
theorem Src.str {s : List Nat} (ok : okS s) : Src K mg A H (Its ⟨s.toArray⟩) (s.map fun c => .str [c]) :=
  .of (walk_str (z := ⟨s.toArray⟩)) (by simp) (fun _ _ _ => trivial) fun i A1 H1 x H2 e lv hi y => by
    obtain ⟨rfl, c, hc, rfl⟩ := y
    have hc' : s[i]? = some c := by simpa using hc
    refine ⟨.str [c], by simp [hc'], ⟨rfl, ?_, fun k hk => ?_⟩, fun _ _ q => q⟩
    · simp [LIM]
    · rw [List.mem_singleton.mp hk]
      exact ok.2 c (List.mem_of_getElem? hc')
theorem Src.rng {lo : Int} {n : Nat} : Src K mg A H (Itr lo n) (rangeL lo n) :=
  .of (walk_range (lo := lo) (n := n)) (by simp [rangeL]) (fun _ _ _ => trivial) fun i A1 H1 x H2 e lv hi y => by
    obtain ⟨rfl, rfl⟩ := y
    have hi' : i < n := by simpa [rangeL] using hi
    exact ⟨.int (lo + (i : Nat)), by simp [rangeL, hi'], rfl, fun _ _ q => q⟩
/-- a new pair -/
theorem VR.pair {A1 : Av} {H1 : Hp} {T : Addr} {d e : D} {x y : V} (lv : ∀ p, A1 p → H1 p ≠ none) (n : H1 T = none) (r1 : VR K mg A1 H1 d x) (r2 : VR K mg A1 H1 e y) :
    VR K mg A1 (upd H1 T (.tup [x, y])) (.tup [d, e]) (.ref T) ∧ ∀ b o, H1 b = some o → upd H1 T (.tup [x, y]) b = some o := by
  have keep : ∀ b o, H1 b = some o → upd H1 T (.tup [x, y]) b = some o := fun b o q => by rw [upd_ne (ne_of_none q n)]; exact q
  have ev : Evo A1 H1 A1 (upd H1 T (.tup [x, y])) := ⟨fun b o q _ => keep b o q, fun b q => .inl q⟩
  exact ⟨⟨T, [x, y], rfl, .inl ⟨.inl upd_same, fun z => lv T z n⟩, _, _, rfl, r1.evo ev, _, _, rfl, r2.evo ev, rfl⟩, keep⟩
theorem Src.enum {p : Addr} {ws : List V} (r : RdL K A H p ws) (rs : VRs K mg A H ds ws) : Src K mg A H (Ite K p) (enumL ds) :=
  .of (walk_enum (xs := ws)) (by simp [enumL, rs.length]) (fun A1 H1 e => (r.evo e).sq) fun i A1 H1 x H2 e lv hi y => by
    obtain ⟨T, x1, y1, rfl, hT, rfl, h1, h2⟩ := y
    cases h1
    obtain ⟨d, hd, vd⟩ := (rs.evo e).get h2
    have ri : VR K mg A1 H1 (.int ((i : Nat) : Int)) (.int ((i : Nat) : Int)) := rfl
    obtain ⟨v, k⟩ := VR.pair lv hT ri vd
    exact ⟨_, by simp [enumL, hd], v, k⟩
theorem Src.zip {p q : Addr} {ws us : List V} {es : List D} (r : RdL K A H p ws) (rs : VRs K mg A H ds ws) (r2 : RdL K A H q us) (rs2 : VRs K mg A H es us) : Src K mg A H (Itz K p q) (zipL ds es) :=
  .of (walk_zip (xs := ws) (ys := us) rfl) (by simp [zipL, rs.length, rs2.length]) (fun A1 H1 e => ⟨(r.evo e).sq, (r2.evo e).sq⟩) fun i A1 H1 x H2 e lv hi y => by
    obtain ⟨T, x1, y1, rfl, hT, rfl, h1, h2⟩ := y
    obtain ⟨d, hd, vd⟩ := (rs.evo e).get h1
    obtain ⟨d2, hd2, vd2⟩ := (rs2.evo e).get h2
    obtain ⟨v, k⟩ := VR.pair lv hT vd vd2
    exact ⟨_, by simp [zipL, List.getElem?_zip_eq_some, hd, hd2], v, k⟩
end
end Bw

set_option Elab.async false
set_option linter.all false
set_option maxRecDepth 100000
/-! Bw11: walks by expressions, comprehensions. -/
namespace Bw
open PySem PySem.Spec PyProof.Rows L2

/-- behind an iterator's expression -/
def tI (X : Cx) (W : WX) (r : Env → Res (List D)) : TI := fun σ H Q => ∃ R ρ F, Rel X.K X.mg R ρ σ H F ∧
  Aim X W R σ H F (fun ds ρ' => ∀ J H' F', Rel X.K X.mg R ρ' σ H' F' → Stp F H F' H' → Src X.K X.mg (fun p => p ∈ F' ∨ R p) H' J ds → Q J H') (r ρ)
theorem _root_.L2.PI.impB {X : Cx} {tg e : Expr} {t t' : TI} (h : PI X tg e t) (hi : ∀ pins s σ H Q, Inv X pins σ H s → t' σ H Q → t σ H Q) : PI X tg e t' := ⟨fun pins s σ H Q I q => h.run pins s σ H Q I (hi pins s σ H Q I q)⟩
def iAny (K : PySem.W.Frag) (tl : TE) : TI := fun σ H R => tl σ H fun x H1 => (∃ a, x = .ref a ∧ (∃ xs, SqL K H1 a xs) ∧ R (Itl K a) H1) ∨ (∃ a, x = .ref a ∧ (∃ xs, SqT K H1 a xs) ∧ R (Itt K a) H1) ∨ ∃ z, x = .str z ∧ R (Its z) H1
section
variable {X : Cx} {W : WX} {tg e a b : Expr} {pos p : Pos} {ra rb : Env → Res Cell} {rs : Env → Res (List D)}
theorem pi_any {tl : TE} (hl : PE X e tl) : PI X tg e (iAny X.K tl) := ⟨fun pins s σ H R I h => thn (hl.run pins s σ H _ I h) fun v s1 hv => by
  obtain ⟨x, H1, I1, r1, q⟩ := hv
  rcases q with ⟨k, rfl, ⟨xs, hq⟩, q⟩ | ⟨k, rfl, ⟨xs, hq⟩, q⟩ | ⟨z, rfl, q⟩
  · obtain rfl : v = .ref k := r1
    obtain ⟨its, _, pp, _⟩ := I1.list hq
    exact wpAny_pyIter_list pp.isList (pi_one (tk := s1.toks) I1 _ (turn_list k _) ⟨_, Heap.get?_push_size _ rfl, rfl, rfl⟩ q)
  · obtain rfl : v = .ref k := r1
    obtain ⟨its, _, pp, _⟩ := I1.tuple hq
    exact wpAny_pyIter_tuple (show s1.heap.IsTuple k its.toArray from pp) (pi_one (tk := s1.toks) I1 _ (turn_tuple k _) ⟨_, Heap.get?_push_size _ rfl, rfl, rfl⟩ q)
  · obtain ⟨t, rfl⟩ := r1
    cases q2 : z.cps.all (· < 128) with
    | false => exact wpAny_pyIter_wide q2 (pi_one (tk := s1.toks) I1 _ (turn_str _ z t "str_iterator" (Or.inr rfl)) ⟨_, Heap.get?_push_size _ rfl, rfl, rfl⟩ q)
    | true => exact wpAny_pyIter_ascii q2 (pi_one (tk := s1.toks) I1 _ (turn_str _ z t "str_ascii_iterator" (Or.inl rfl)) ⟨_, Heap.get?_push_size _ rfl, rfl, rfl⟩ q)⟩
theorem tI.bind1 {f : Cell → Env → Res (List D)} {Q : L2.It → Hp → Prop} {Qa : VK} {σ : L2.St} {H : Hp} {R : Av} {ρ : Env} {F : List Addr} (rel : Rel X.K X.mg R ρ σ H F)
    (hm : Aim X W R σ H F (fun ds ρ' => ∀ J H' F', Rel X.K X.mg R ρ' σ H' F' → Stp F H F' H' → Src X.K X.mg (fun p => p ∈ F' ∨ R p) H' J ds → Q J H') ((ra ρ).bind f))
    (hk : ∀ c ρ1 x H1 F1, Rel X.K X.mg R ρ1 σ H1 F1 → VR X.K X.mg (fun p => p ∈ F1 ∨ R p) H1 c.frz x → Stp F H F1 H1 →
      Aim X W R σ H1 F1 (fun ds ρ' => ∀ J H' F', Rel X.K X.mg R ρ' σ H' F' → Stp F1 H1 F' H' → Src X.K X.mg (fun p => p ∈ F' ∨ R p) H' J ds → Q J H') (f c ρ1) → Qa x H1) : tE X W ra σ H Qa := by
  refine ⟨R, ρ, F, rel, (Aim.fst hm).imp fun c ρ1 h u H1 pv => ?_⟩
  obtain ⟨F1, rel1, v, st⟩ := pv.frz
  exact hk c ρ1 u H1 F1 rel1 v st ((Aim.stp st h).imp fun ds ρ2 z J H' F' r s q => z J H' F' r (st.trans s) q)
theorem pi_ofE (ha : PE X e (tE X W ra)) : PI X tg e (tI X W (fun ρ => (ra ρ).bind fun c ρ => .of c.frz.items ρ)) :=
  (pi_any ha).impB fun pins s σ H Q I ⟨R, ρ, F, rel, hm⟩ => tI.bind1 rel hm fun c ρ1 x H1 F1 rel1 v st h1 => by
    obtain ⟨ds, ed, h⟩ := Aim.of h1
    cases q : c.frz with
    | tup es =>
      rw [q] at v ed
      obtain ⟨p, ws, rfl, r, rs⟩ := v
      cases ed
      exact .inr (.inl ⟨p, rfl, ⟨ws, r.sq⟩, h _ H1 F1 rel1 .refl (.tup r rs)⟩)
    | lst es =>
      rw [q] at v ed
      obtain ⟨p, ws, rfl, r, rs⟩ := v
      cases ed
      exact .inl ⟨p, rfl, ⟨ws, .of r.1⟩, h _ H1 F1 rel1 .refl (.lst (.inl ⟨.inl r.1, r.2⟩) rs)⟩
    | scr ns =>
      rw [q] at v ed
      obtain ⟨p, rfl, r⟩ := v
      cases ed
      refine .inl ⟨p, rfl, ⟨_, r.sq⟩, h _ H1 F1 rel1 .refl (.lst r (VRs.of ?_))⟩
      have key : ∀ ns : List Int, Paired (VR X.K X.mg (fun p => p ∈ F1 ∨ R p) H1) (ns.map D.int) (ns.map V.int) := by
        intro ns
        induction ns with
        | nil => exact .nil
        | cons n ns ih => exact .cons rfl ih
      exact key ns
    | str s =>
      rw [q] at v ed
      obtain ⟨rfl, ok⟩ := v
      cases ed
      exact .inr (.inr ⟨_, rfl, h _ H1 F1 rel1 .refl (.str ok)⟩)
    | _ => rw [q] at ed; cases ed
theorem small62_ok {i : Int} (h : small62 i = true) : -(2 ^ 62) ≤ i ∧ i < 2 ^ 62 := by
  unfold small62 at h
  rw [Bool.and_eq_true, decide_eq_true_eq, decide_eq_true_eq] at h
  exact h
/-- the one argument of a call -/
theorem tA_one {Q : List V → Hp → Prop} {σ : L2.St} {H : Hp} (h : tE X W ra σ H fun x H1 => Q [x] H1) : tCons (tE X W ra) tNil σ H Q := by
  obtain ⟨R, ρ, F, rel, hm⟩ := h
  exact ⟨R, ρ, F, rel, hm⟩
theorem pi_rg1E (hg : Gl X "range") (hm : X.mg "range" = none) (ha : PE X a (tE X W ra)) (hs : starEach [a] X.env = [(false, eval a X.env)]) :
    PI X tg (.Call (.Name "range" p) [a] [] pos) (tI X W (fun ρ => (ra ρ).bind fun c ρ => match c.frz with
    | .int j => if small62 j then .ok (rangeL 0 j.toNat) ρ else .no
    | _ => .no)) :=
  (pi_range1 hg hm (pa_cons ha pa_nil hs) hs).impB fun pins s σ H Q I ⟨R, ρ, F, rel, hm⟩ => tA_one (tI.bind1 rel hm fun c ρ1 x H1 F1 rel1 v st h1 => by
    cases q : c.frz with
    | int j =>
      rw [q] at v h1
      obtain rfl : x = .int j := v
      simp only at h1
      split at h1
      · rename_i hj
        obtain ⟨h2, h3⟩ := small62_ok hj
        exact ⟨j, rfl, h2, h3, h1 _ H1 F1 rel1 .refl .rng⟩
      · exact h1.elim
    | _ => rw [q] at h1; exact h1.elim)
theorem tA_two {Q : List V → Hp → Prop} {σ : L2.St} {H : Hp} (h : tE X W ra σ H fun x H1 => tE X W rb σ H1 fun y H2 => Q [x, y] H2) : tCons (tE X W ra) (tCons (tE X W rb) tNil) σ H Q := h
theorem pi_rg2E (hg : Gl X "range") (hm : X.mg "range" = none) (ha : PE X a (tE X W ra)) (hb : PE X b (tE X W rb)) (hs : starEach [a, b] X.env = [(false, eval a X.env), (false, eval b X.env)]) (hs2 : starEach [b] X.env = [(false, eval b X.env)]) :
    PI X tg (.Call (.Name "range" p) [a, b] [] pos) (tI X W (fun ρ => (ra ρ).bind fun c ρ => (rb ρ).bind fun d ρ => match c.frz, d.frz with
    | .int i, .int j => if small62 i && small62 j then .ok (rangeL i (j - i).toNat) ρ else .no
    | _, _ => .no)) :=
  (pi_range2 hg hm (pa_cons ha (pa_cons hb pa_nil hs2) (by rw [hs, hs2])) hs hs2).impB fun pins s σ H Q I ⟨R, ρ, F, rel, hm⟩ => tA_two (tI.bind1 rel hm fun c ρ1 x H1 F1 rel1 v st h1 => tI.bind1 rel1 h1 fun d ρ2 y H2 F2 rel2 v2 st2 h2 => by
    have v' := v.evo (st2.evo R)
    cases q : c.frz with
    | int i =>
      cases q2 : d.frz with
      | int j =>
        rw [q] at v' h2
        rw [q2] at v2 h2
        obtain rfl : x = .int i := v'
        obtain rfl : y = .int j := v2
        simp only at h2
        split at h2
        · rename_i hj
          obtain ⟨h3, h4⟩ := Bool.and_eq_true_iff.mp hj
          exact ⟨i, j, rfl, ⟨(small62_ok h3).1, (small62_ok h3).2, (small62_ok h4).1, (small62_ok h4).2⟩, h2 _ H2 F2 rel2 .refl .rng⟩
        · exact h2.elim
      | _ => rw [q, q2] at h2; exact h2.elim
    | _ => rw [q] at h2; exact h2.elim)
theorem pi_enumE {tpos : Pos} {elts : List Expr} {kk : Nat} (hg : Gl X "enumerate") (hm : X.mg "enumerate" = none) (ha : PE X a (tE X W ra)) (hs : starEach [a] X.env = [(false, eval a X.env)]) :
    PI X (.Tuple elts kk tpos) (.Call (.Name "enumerate" p) [a] [] pos) (tI X W (fun ρ => (ra ρ).bind fun c ρ => match c.frz with
    | .lst ds => .ok (enumL ds) ρ
    | _ => .no)) :=
  (pi_enum hg hm (pa_cons ha pa_nil hs) hs).impB fun pins s σ H Q I ⟨R, ρ, F, rel, hm⟩ => tA_one (tI.bind1 rel hm fun c ρ1 x H1 F1 rel1 v st h1 => by
    cases q : c.frz with
    | lst ds =>
      rw [q] at v h1
      obtain ⟨p, ws, rfl, r, rs⟩ := v
      exact ⟨p, ws, rfl, .of r.1, h1 _ H1 F1 rel1 .refl (.enum (.inl ⟨.inl r.1, r.2⟩) rs)⟩
    | _ => rw [q] at h1; exact h1.elim)
theorem pi_zipE {tpos : Pos} {elts : List Expr} {kk : Nat} (hg : Gl X "zip") (hm : X.mg "zip" = none) (ha : PE X a (tE X W ra)) (hb : PE X b (tE X W rb)) (hs : starEach [a, b] X.env = (false, eval a X.env) :: starEach [b] X.env) (hs2 : starEach [b] X.env = [(false, eval b X.env)]) (hpl : (backTo pos (starEach [b] X.env)).any (·.1) = false) :
    PI X (.Tuple elts kk tpos) (.Call (.Name "zip" p) [a, b] [] pos) (tI X W (fun ρ => (ra ρ).bind fun c ρ => (rb ρ).bind fun d ρ => match c.frz, d.frz with
    | .lst as, .lst bs => .ok (zipL as bs) ρ
    | _, _ => .no)) :=
  (pi_zip hg hm (pa_cons ha (pa_cons hb pa_nil hs2) hs) hs hpl).impB fun pins s σ H Q I ⟨R, ρ, F, rel, hm⟩ => tA_two (tI.bind1 rel hm fun c ρ1 x H1 F1 rel1 v st h1 => tI.bind1 rel1 h1 fun d ρ2 y H2 F2 rel2 v2 st2 h2 => by
    have v' := v.evo (st2.evo R)
    cases q : c.frz with
    | lst as =>
      cases q2 : d.frz with
      | lst bs =>
        rw [q] at v' h2
        rw [q2] at v2 h2
        obtain ⟨p, ws, rfl, r, rs⟩ := v'
        obtain ⟨p2, ws2, rfl, r2, rs2⟩ := v2
        exact ⟨p, p2, ws, ws2, rfl, .of r.1, .of r2.1, h2 _ H2 F2 rel2 .refl (.zip (.inl ⟨.inl r.1, r.2⟩) rs (.inl ⟨.inl r2.1, r2.2⟩) rs2)⟩
      | _ => rw [q, q2] at h2; exact h2.elim
    | _ => rw [q] at h2; exact h2.elim)

/-! ### comprehensions -/
/-- no wish for exceptions -/
abbrev W0 : WX := fun _ _ _ _ => False
/-- one turn -/
def turnF (rc re : Env → Res Cell) : Env → Res (Option D) := fun ρ => (rc ρ).bind fun k ρ => match k.frz.truth with
  | some true => (re ρ).bind fun c ρ => .ok (some c.frz) ρ
  | some false => .ok none ρ
  | none => .no
def tTs (X : Cx) (rc : Env → Res Cell) : TT := tT X W0 rc
def yesR : Env → Res Cell := fun ρ => .ok (.val (.bl true)) ρ
theorem turn_yes {re : Env → Res Cell} : turnF yesR re = fun ρ => (re ρ).bind fun c ρ => .ok (some c.frz) ρ := rfl
theorem pts_yes : PTs X [] (tTs X yesR) := ⟨fun pins s σ H Q I ⟨R, ρ, F, rel, hm⟩ => pts_nil.run pins s σ H Q I (by
  obtain ⟨k, e, h⟩ := hm
  cases e
  exact h H ⟨F, rel, .refl⟩)⟩
variable {scope : Scope} {tgt : Tg} {own : List (Str × Nat)} {ri : Env → Res (List D)} {rc re : Env → Res Cell}
/-- what stands at turn i of a comprehension -/
structure LcAt (X : Cx) (R : Av) (tgt : Tg) (f : Env → Res (Option D)) (ds : List D) (σ : L2.St) (D : Addr) (F1 : List Addr) (H1 : Hp) (end_ : List Bw.D → Env → Prop) (i : Nat) (H : Hp) : Prop where
  ex : ∃ ρ acc ws F, Rel X.K X.mg (fun p => p ∈ [D] ∨ R p) (tgt.wipe ρ) (wipe σ tgt.ixs) H F ∧ H D = some (.lst ws) ∧ VRs X.K X.mg (fun p => p ∈ F ∨ (p ∈ [D] ∨ R p)) H acc ws ∧ Stp F1 H1 ([D] ++ F) H ∧
    ∃ xs ρ', compL tgt f (ds.drop i) acc ρ = .ok xs ρ' ∧ end_ xs ρ'
end
end Bw

set_option Elab.async false
set_option linter.all false
set_option maxRecDepth 100000
/-! Bw12: comprehensions. -/
namespace Bw
open PySem PySem.Spec PyProof.Rows L2

section
variable {K : PySem.W.Frag} {mg : Str → Option Value} {A R : Av} {σ : L2.St} {H H' : Hp} {ρ : Env} {F F' : List Addr}
theorem Rel.live (rel : Rel K mg R ρ σ H F) : ∀ p, (p ∈ F ∨ R p) → H p ≠ none := fun p z => z.elim (rel.er.live p) (rel.lv p)
theorem Rel.grow (rel : Rel K mg R ρ σ H F) (k : ∀ b o, H b = some o → H' b = some o) : Rel K mg R ρ σ H' F :=
  ⟨rel.er.evo ⟨fun b o q _ => k b o q, fun b q => .inl q⟩ fun p _ o q => k p o q, rel.nd, rel.ap, fun p z => by
    cases e : H p with
    | none => exact absurd e (rel.lv p z)
    | some o => rw [k p o e]; simp⟩
theorem Rel.write {D : Addr} {o : HO} (rel : Rel K mg R ρ σ H F) (hD : R D) : Rel K mg R ρ σ (upd H D o) F :=
  ⟨rel.er.evo ⟨fun b u q n => by rw [upd_ne (show b ≠ D from fun e => n (.inr (e ▸ hD)))]; exact q, fun b q => .inl q⟩ fun p hp u q => by rw [upd_ne (show p ≠ D from fun e => rel.ap p hp (e ▸ hD))]; exact q, rel.nd, rel.ap, fun p z => by
    by_cases e : p = D
    · rw [e, upd_same]; simp
    · rw [upd_ne e]; exact rel.lv p z⟩
theorem VR.write {D : Addr} {o : HO} {d : Bw.D} {v : V} (r : VR K mg A H d v) (hD : A D) : VR K mg A (upd H D o) d v := r.evo ⟨fun b u q n => by rw [upd_ne (show b ≠ D from fun e => n (e ▸ hD))]; exact q, fun b q => .inl q⟩
theorem VRs.write {D : Addr} {o : HO} {d : List Bw.D} {v : List V} (r : VRs K mg A H d v) (hD : A D) : VRs K mg A (upd H D o) d v := r.evo ⟨fun b u q n => by rw [upd_ne (show b ≠ D from fun e => n (e ▸ hD))]; exact q, fun b q => .inl q⟩
theorem Stp.write {D : Addr} {o : HO} (hD : D ∈ F) : Stp F H F (upd H D o) := ⟨fun b u q n => by rw [upd_ne (show b ≠ D from fun e => n (e ▸ hD))]; exact q, fun b q => by
    by_cases e : b = D
    · rw [e, upd_same]; simp
    · rw [upd_ne e]; exact q, fun b hb => .inl hb⟩
theorem Stp.grow (k : ∀ b o, H b = some o → H' b = some o) : Stp F H F H' := ⟨fun b u q _ => k b u q, fun b q => by
    cases e : H b with
    | none => exact absurd e q
    | some o => rw [k b o e]; simp, fun b hb => .inl hb⟩
theorem Stp.more (G : List Addr) (s : Stp F H F' H') : Stp (G ++ F) H (G ++ F') H' :=
  ⟨fun b o q n => s.keep b o q fun z => n (List.mem_append_right _ z), s.live, fun b hb => (List.mem_append.mp hb).elim (fun z => .inl (List.mem_append_left _ z)) fun z => (s.old b z).elim (fun y => .inl (List.mem_append_right _ y)) .inr⟩
theorem Stp.at (s : Stp F H F' H') (rel : Rel K mg R ρ σ H F) {D : Addr} {o : HO} (hD : R D) (e : H D = some o) : H' D = some o := s.keep D o e fun z => rel.ap D z hD
theorem wipe_wipe {vs : List Nat} : wipe (wipe σ vs) vs = wipe σ vs := by
  apply List.ext_getElem?
  intro j
  rw [wipe_get, wipe_get, wipe_length]
  by_cases hj : j ∈ vs
  · rw [if_pos hj, if_pos hj]
  · rw [if_neg hj, if_neg hj]
theorem Src.walk {J : L2.It} {ds : List D} (s : Src K mg A H J ds) : Walk J ds.length (fun H1 => ∃ A1, Evo A H A1 H1)
    (fun i H1 x H2 => ∀ A1, Evo A H A1 H1 → (∀ p, A1 p → H1 p ≠ none) → ∃ d, ds[i]? = some d ∧ VR K mg A1 H2 d x ∧ (∀ b o, H1 b = some o → H2 b = some o)) :=
  ⟨fun i H1 hi ⟨A1, e⟩ => s.go i A1 H1 e hi, fun H1 ⟨A1, e⟩ => s.stop A1 H1 e, fun i H1 x H2 hi _ y A1 e lv => s.yld i A1 H1 x H2 e lv hi y⟩
theorem Evo.less {A1 : Av} {B : Av} (e : Evo A H A1 H') (h : ∀ p, B p → A1 p) : Evo A H B H' := ⟨e.keep, fun b z => e.old b (h b z)⟩
end

section
variable {X : Cx} {σ : L2.St} {R : Av} {tgt : Tg} {rc re : Env → Res Cell} {ds : List D} {D : Addr} {F1 : List Addr} {H1 : Hp} {end_ : List Bw.D → Env → Prop}
theorem LcAt.evo {i : Nat} {H : Hp} {f : Env → Res (Option Bw.D)} (p : LcAt X R tgt f ds σ D F1 H1 end_ i H) : ∃ A1, Evo (fun p => p ∈ F1 ∨ R p) H1 A1 H := by
  obtain ⟨ρ, acc, ws, F, rel, hD, vs, st, _⟩ := p.ex
  exact ⟨_, st.evo R⟩
theorem LcAt.turn {i : Nat} {x : V} {H H' : Hp} (hi : i < ds.length) (p : LcAt X R tgt (turnF rc re) ds σ D F1 H1 end_ i H)
    (y : ∀ A1, Evo (fun p => p ∈ F1 ∨ R p) H1 A1 H → (∀ p, A1 p → H p ≠ none) → ∃ d, ds[i]? = some d ∧ VR X.K X.mg A1 H' d x ∧ (∀ b o, H b = some o → H' b = some o)) :
    gTg X.K tgt x (wipe σ tgt.ixs) H' fun σ2 H2 => wipe σ2 tgt.ixs = wipe σ tgt.ixs ∧ tTs X rc σ2 H2 fun b H3 =>
      if b = true then tE X W0 re σ2 H3 fun y H4 => ∃ acc, H4 D = some (.lst acc) ∧ acc.length < sizeLine ∧ LcAt X R tgt (turnF rc re) ds σ D F1 H1 end_ (i + 1) (upd H4 D (.lst (acc ++ [y]))) else LcAt X R tgt (turnF rc re) ds σ D F1 H1 end_ (i + 1) H3 := by
  obtain ⟨ρ, acc, ws, F, rel, hD, vs, st, xs, ρe, hc, he⟩ := p.ex
  have RD : (fun p => p ∈ [D] ∨ R p) D := .inl (by simp)
  have sub : ∀ p, (p ∈ F ∨ (p ∈ [D] ∨ R p)) → (p ∈ [D] ++ F ∨ R p) := fun p z => by
    rcases z with z | z | z
    · exact .inl (List.mem_append_right _ z)
    · exact .inl (List.mem_append_left _ z)
    · exact .inr z
  obtain ⟨d, ed, vd, k⟩ := y _ ((st.evo R).less sub) rel.live
  have e1 : ds.drop i = d :: ds.drop (i + 1) := by
    rw [List.drop_eq_getElem_cons hi]
    rw [List.getElem?_eq_getElem hi] at ed
    cases ed
    rfl
  rw [e1] at hc
  unfold compL at hc
  cases hp : tgt.put d (tgt.wipe ρ) with
  | none => rw [hp] at hc; cases hc
  | some ρ1 =>
    rw [hp] at hc
    simp only at hc
    refine gTg_ok (rel.grow k) vd hp fun σ2 F2 rel2 h2 hw => ⟨by rw [hw, wipe_wipe], ?_⟩
    have s2 : Stp F H F2 H' := (Stp.grow k).trans (Stp.sub h2)
    refine ⟨_, ρ1, F2, rel2, ?_⟩
    have ht : ∀ o ρ2, turnF rc re ρ1 = .ok o ρ2 → (match o with | some x => if acc.length < LIM then compL tgt (turnF rc re) (ds.drop (i + 1)) (acc ++ [x]) ρ2 else .no | none => compL tgt (turnF rc re) (ds.drop (i + 1)) acc ρ2) = .ok xs ρe := fun o ρ2 e => by
      rw [e] at hc
      cases o with
      | none => exact hc
      | some z => exact hc
    have hD' : H' D = some (.lst ws) := k D _ hD
    cases ec : rc ρ1 with
    | no => unfold turnF at hc; rw [ec] at hc; cases hc
    | ex x r => unfold turnF at hc; rw [ec] at hc; cases hc
    | ok kc ρ2 =>
      cases et : kc.frz.truth with
      | none => unfold turnF at hc; rw [ec] at hc; simp only [Res.bind, et] at hc; cases hc
      | some b =>
        refine ⟨b, et, fun H3 pb => ?_⟩
        obtain ⟨F3, rel3, s3⟩ := pb
        have hD3 : H3 D = some (.lst ws) := s3.at rel2 RD hD'
        cases b with
        | false =>
          rw [if_neg Bool.false_ne_true]
          have z := ht none ρ2 (by unfold turnF; rw [ec]; simp only [Res.bind, et])
          obtain ⟨F5, h5, rel5⟩ := rel3.wipes tgt.ixs
          rw [hw, wipe_wipe] at rel5
          have s5 : Stp F H F5 H3 := (s2.trans s3).trans (Stp.sub h5)
          exact ⟨ρ2, acc, ws, F5, rel5, hD3, vs.evo (s5.evo _), st.trans (s5.more [D]), xs, ρe, z, he⟩
        | true =>
          rw [if_pos rfl]
          refine ⟨_, ρ2, F3, rel3, ?_⟩
          cases ee : re ρ2 with
          | no => have hc' := hc; unfold turnF at hc'; rw [ec] at hc'; simp only [Res.bind, et, ee] at hc'; cases hc'
          | ex x r => have hc' := hc; unfold turnF at hc'; rw [ec] at hc'; simp only [Res.bind, et, ee] at hc'; cases hc'
          | ok c ρ4 =>
            have z := ht (some c.frz) ρ4 (by unfold turnF; rw [ec]; simp only [Res.bind, et, ee])
            simp only at z
            split at z
            · rename_i hl
              refine fun u H4 pv => ?_
              obtain ⟨F4, rel4, vu, s4⟩ := pv.frz
              have hD4 : H4 D = some (.lst ws) := s4.at rel3 RD hD3
              refine ⟨ws, hD4, by rw [lim_eq, ← vs.length]; exact hl, ?_⟩
              obtain ⟨F5, h5, rel5⟩ := rel4.wipes tgt.ixs
              rw [hw, wipe_wipe] at rel5
              have s5 : Stp F H F5 H4 := ((s2.trans s3).trans s4).trans (Stp.sub h5)
              refine ⟨ρ4, acc ++ [c.frz], ws ++ [u], F5, rel5.write RD, upd_same, ?_, (st.trans (s5.more [D])).trans (Stp.write (by simp)), xs, ρe, z, he⟩
              exact VRs.write (VRs.append (vs.evo (s5.evo _)) (VRs.cons (Rel.shrink h5 vu) VRs.nil)) (.inr RD)
            · cases z
variable {W : WX} {scope : Scope} {own : List (Str × Nat)} {ri : Env → Res (List Bw.D)} {elt tg iter : Expr} {ifs : List Expr} {pos : Pos}
/-- a comprehension's reading -/
def lcR (ri : Env → Res (List Bw.D)) (tgt : Tg) (f : Env → Res (Option Bw.D)) : Env → Res Cell := fun ρ => (ri ρ).bind fun ds ρ => if tgt.free ρ then (compL tgt f ds [] ρ).bind fun xs ρ' => .ok (.own xs) (tgt.back ρ ρ') else .no
theorem lc_ok {H : Hp} {Q : VK} (ho : own.map (·.2) = tgt.ixs) (h : tE X W (lcR ri tgt (turnF rc re)) σ H Q) : tLc (tI X W ri) (gTg X.K tgt) (tTs X rc) (tE X W0 re) (own.map (·.2)) σ H Q := by
  obtain ⟨R, ρ, F, rel, hm⟩ := h
  refine ⟨R, ρ, F, rel, (Aim.fst hm).imp fun ds ρ1 h J H1 F1 rel1 st src D hD => ?_⟩
  rw [ho]
  by_cases hf : tgt.free ρ1 = true
  · rw [if_pos hf] at h
    cases hc : compL tgt (turnF rc re) ds [] ρ1 with
    | no => rw [hc] at h; exact h.elim
    | ex x r =>
      exfalso
      have key : ∀ ds acc ρ x r, compL tgt (turnF rc re) ds acc ρ ≠ .ex x r := by
        intro ds
        induction ds with
        | nil => intro acc ρ x r e; cases e
        | cons d ds ih =>
          intro acc ρ x r e
          unfold compL at e
          split at e
          · cases e
          · split at e
            · split at e
              · exact ih _ _ _ _ e
              · cases e
            · exact ih _ _ _ _ e
            · cases e
            · cases e
      exact key _ _ _ _ _ hc
    | ok xs ρe =>
      rw [hc] at h
      have h : ∀ u H', PV X.K X.mg R σ H F (tgt.back ρ1 ρe) (.own xs) u H' → Q u H' := h
      refine lc_it (Qd := fun H => Q (.ref D) H) src.walk (LcAt X R tgt (turnF rc re) ds σ D F1 H1 fun ys ρ' => ys = xs ∧ ρ' = ρe) ?_ (fun i H _ p => p.evo) (fun i x H H' hi p y => p.turn hi y) fun H' p => ?_
      · obtain ⟨F2, h2, rel2⟩ := (rel1.new (o := .lst []) hD).wipes tgt.ixs
        exact ⟨ρ1, [], [], F2, rel2, upd_same, VRs.nil, (Stp.new hD).trans ((Stp.sub h2).more [D]), xs, ρe, hc, rfl, rfl⟩
      · obtain ⟨ρ', acc, ws, F', rel', hD', vs, st', ys, ρe', hc', rfl, rfl⟩ := p.ex
        rw [List.drop_length] at hc'
        unfold compL at hc'
        cases hc'
        have sub : ∀ p, (p ∈ F' ∨ (p ∈ [D] ∨ R p)) → (p ∈ [D] ++ F' ∨ R p) := fun p z => by
          rcases z with z | z | z
          · exact .inl (List.mem_append_right _ z)
          · exact .inl (List.mem_append_left _ z)
          · exact .inr z
        obtain ⟨F'', h'', rel''⟩ := rel'.backs (σ := σ) (ρ0 := ρ1) tgt.ixs fun v hv => (rel1.slot (Tg.free_ok hf v hv)).evo ((st'.evo R).less sub) fun _ z => nomatch z
        rw [backS_eq wipe_wipe] at rel''
        have sF := Stp.sub (H := H') h''
        refine h _ H' ⟨F'', [D], rel'', ⟨D, ws, rfl, rfl, hD', vs.evo (sF.evo _)⟩, by simp, fun p hp z => ?_, (st.trans st').trans (sF.more [D])⟩
        rw [List.mem_singleton.mp hp] at z
        exact rel1.lv D z hD
  · rw [if_neg hf] at h; exact h.elim
theorem pe_lcE (hc : X.calm = true) (hN : X.N.Nodup) (hi : PI X tg iter (tI X W ri)) (ok : BlkOk X.N X.env.scope scope own) (ho : own.map (·.2) = tgt.ixs)
    (hg : ∀ (s : Shared) (H : Hp) (C : Addr) (cl : List (Str × Addr)) (fp : List Addr), PG (X.blk s H scope (compEnvC scope cl C X.env) fp) tg (gTg X.K tgt)) (ht : ∀ (s : Shared) (H : Hp) (C : Addr) (cl : List (Str × Addr)) (fp : List Addr), PTs (X.blk s H scope (compEnvC scope cl C X.env) fp) ifs (tTs X rc))
    (he : ∀ (s : Shared) (H : Hp) (C : Addr) (cl : List (Str × Addr)) (fp : List Addr), PE (X.blk s H scope (compEnvC scope cl C X.env) fp) elt (tE X W0 re)) (hs : ∀ x, foldedSetIterable iter X.env x = pure x) :
    PE X (.ListComp elt [⟨tg, iter, ifs, 0⟩] scope pos) (tE X W (lcR ri tgt (turnF rc re))) :=
  (pe_lc hc hN hi ok hg ht he hs).impB fun pins s σ H Q I h => lc_ok ho h
end
end Bw

set_option Elab.async false
set_option linter.all false
set_option maxRecDepth 100000
/-! Bw13: statements. -/
namespace Bw
open PySem PySem.Spec PyProof.Rows L2

/-- how a statement ends -/
inductive Out where
  | nx (ρ : Env)
  | rt (c : Cell)
  | ex (x : Exn) (ρ : Env)
  | no
def Res.out {α : Type} (r : Res α) (f : α → Env → Out) : Out := match r with
  | .ok a ρ => f a ρ
  | .ex x ρ => .ex x ρ
  | .no => .no
def Out.andThen (o : Out) (f : Env → Out) : Out := match o with
  | .nx ρ => f ρ
  | .rt c => .rt c
  | .ex x ρ => .ex x ρ
  | .no => .no
/-- what a clause's return is made of -/
inductive HA where
  | cst (d : D)
  | fld (f : Str)
inductive HB where
  | one (a : HA)
  | tup (as : List HA)
  | bad
def HA.val (arg : Option (Str × D)) : HA → Option D
  | .cst d => some d
  | .fld f => match arg with
    | some (g, d) => if g = f then some d else none
    | none => none
def HB.val (arg : Option (Str × D)) : HB → Option D
  | .one a => a.val arg
  | .tup as => (allOf (HA.val arg) as).map .tup
  | .bad => none
structure Hd where
  cls : Str
  slot : Option Nat
  body : HB
def Hd.fits (h : Hd) (ρ : Env) : Bool := match h.slot with
  | none => true
  | some i => decide (i < ρ.length)
mutual
inductive S where
  | pass
  | asg (i : Nat) (e : E)
  | own (i : Nat) (e : E)
  | asgT (is : List Nat) (e : E)
  | ite (c : E) (a b : Ss)
  | loop (tg : Tg) (it : It) (b : Ss)
  | wh (n : Nat) (c : E) (b : Ss)
  | ret (e : E)
  | retN
  | expr (e : E)
  | raise (x : Str) (es : Es)
  | app (i : Nat) (e : E)
  | tr (b : Ss) (hs : List Hd)
inductive Ss where
  | nil
  | cons (s : S) (ss : Ss)
end
def forL (tg : Tg) (f : Env → Out) : List D → Env → Out
  | [], ρ => .nx ρ
  | d :: ds, ρ => match tg.put d ρ with
    | none => .no
    | some ρ1 => (f ρ1).andThen fun ρ2 => forL tg f ds ρ2
def whL (c : Env → Res Cell) (f : Env → Out) : Nat → Env → Out
  | 0, _ => .no
  | n + 1, ρ => (c ρ).out fun k ρ => match k.frz.truth with
    | some true => (f ρ).andThen fun ρ2 => whL c f n ρ2
    | some false => .nx ρ
    | none => .no
/-- the clauses, one after the other -/
def hdsL (sb : Str → Str → Option Bool) (x : Exn) : List Hd → Env → Out
  | [], ρ => .ex x ρ
  | h :: hs, ρ => match sb x.cls h.cls with
    | some true => if h.fits ρ then (match h.body.val x.arg with
      | some d => .rt (.val d)
      | none => .no) else .no
    | some false => hdsL sb x hs ρ
    | none => .no
section
variable (Γ : Str → List D → CR) (Ξ : Str → List D → Option Exn) (sb : Str → Str → Option Bool)
mutual
def xs : S → Env → Out
  | .pass, ρ => .nx ρ
  | .asg i e, ρ => (ev Γ e ρ).out fun c ρ => .nx (ρ.set i (some (.val c.frz)))
  | .own i e, ρ => (ev Γ e ρ).out fun c ρ => .nx (ρ.set i (some c))
  | .asgT is e, ρ => (ev Γ e ρ).out fun c ρ => match (Tg.tp is).put c.frz ρ with
    | some ρ => .nx ρ
    | none => .no
  | .ite c a b, ρ => (ev Γ c ρ).out fun k ρ => match k.frz.truth with
    | some true => xss a ρ
    | some false => xss b ρ
    | none => .no
  | .loop tg it b, ρ => (evi Γ it ρ).out fun ds ρ => forL tg (fun ρ => xss b ρ) ds ρ
  | .wh n c b, ρ => whL (fun ρ => ev Γ c ρ) (fun ρ => xss b ρ) n ρ
  | .ret e, ρ => (ev Γ e ρ).out fun c _ => .rt c
  | .retN, ρ => .rt (.val .non)
  | .expr e, ρ => (ev Γ e ρ).out fun _ ρ => .nx ρ
  | .raise x es, ρ => (evs Γ es ρ).out fun ds ρ => match Ξ x ds with
    | some x => .ex x ρ
    | none => .no
  | .app i e, ρ => match ρ.get i with
    | some (.own _) => (ev Γ e ρ).out fun c ρ => (match ρ.get i with
      | some (.own ds) => if ds.length < LIM then .nx (ρ.set i (some (.own (ds ++ [c.frz])))) else .no
      | _ => .no)
    | _ => .no
  | .tr b hs, ρ => match xss b ρ with
    | .ex x ρ => hdsL sb x hs ρ
    | .nx ρ => .nx ρ
    | .rt c => .rt c
    | .no => .no
def xss : Ss → Env → Out
  | .nil, ρ => .nx ρ
  | .cons s ss, ρ => (xs s ρ).andThen fun ρ => xss ss ρ
end
end

/-- what is asked where a statement comes to o -/
def AimS (X : Cx) (W : WX) (R : Av) (H : Hp) (F : List Addr) (D : Ends) : Out → Prop
  | .nx ρ' => ∀ σ' H' F', Rel X.K X.mg R ρ' σ' H' F' → Stp F H F' H' → D.nx σ' H'
  | .rt c => ∀ u H' Fc, CRel X.K X.mg (fun p => p ∈ Fc ∨ R p) H' c u Fc → Fc.Nodup → (∀ p ∈ Fc, ¬ R p) → Stp F H Fc H' → D.rt u H'
  | .ex x ρ' => ∀ σ' cls d H' F', Rel X.K X.mg R ρ' σ' H' F' → XR X.K X.mg (fun p => p ∈ F' ∨ R p) x cls d H' → Stp F H F' H' → W cls d σ' H'
  | .no => False
def tS (X : Cx) (W : WX) (r : Env → Out) : TS := fun D σ H => ∃ R ρ F, Rel X.K X.mg R ρ σ H F ∧ AimS X W R H F D (r ρ)
theorem _root_.L2.PS.impB {X : Cx} {st : Stmt} {t t' : TS} (h : PS X st t) (hi : ∀ pins s D σ H, Inv X pins σ H s → t' D σ H → t D σ H) : PS X st t' := ⟨fun pins s σ H D I q => h.run pins s σ H D I (hi pins s D σ H I q)⟩
theorem _root_.L2.PSs.impB {X : Cx} {st : List Stmt} {t t' : TS} (h : PSs X st t) (hi : ∀ pins s D σ H, Inv X pins σ H s → t' D σ H → t D σ H) : PSs X st t' := ⟨fun pins s σ H D I q => h.run pins s σ H D I (hi pins s D σ H I q)⟩

section
variable {X : Cx} {W : WX} {R : Av} {σ : L2.St} {H H1 : Hp} {F F1 : List Addr} {ρ : Env} {D : Ends}
theorem AimS.stp {o : Out} (st : Stp F H F1 H1) (h : AimS X W R H F D o) : AimS X W R H1 F1 D o := by
  cases o with
  | nx ρ' => exact fun σ' H' F' r s => h σ' H' F' r (st.trans s)
  | rt c => exact fun u H' Fc r n a s => h u H' Fc r n a (st.trans s)
  | ex x ρ' => exact fun σ' cls d H' F' r xr s => h σ' cls d H' F' r xr (st.trans s)
  | no => exact h
/-- the first of two steps: an expression -/
theorem AimS.fst {α : Type} {r : Res α} {f : α → Env → Out} (h : AimS X W R H F D (r.out f)) : Aim X W R σ H F (fun c ρ' => AimS X W R H F D (f c ρ')) r := by
  cases r with
  | ok c ρ' => exact h
  | ex x ρ' => exact fun cls d H' ⟨F', rel, xr, st⟩ => h σ cls d H' F' rel xr st
  | no => exact h
theorem tE.out {ra : Env → Res Cell} {f : Cell → Env → Out} {Qa : VK} (rel : Rel X.K X.mg R ρ σ H F) (hm : AimS X W R H F D ((ra ρ).out f))
    (hk : ∀ c ρ1 x H1, PV X.K X.mg R σ H F ρ1 c x H1 → AimS X W R H F D (f c ρ1) → Qa x H1) : tE X W ra σ H Qa :=
  ⟨R, ρ, F, rel, (AimS.fst hm).imp fun c ρ1 h u H1 pv => hk c ρ1 u H1 pv h⟩
theorem tT.out {ra : Env → Res Cell} {f : Cell → Env → Out} {Qa : Bool → Hp → Prop} (rel : Rel X.K X.mg R ρ σ H F) (hm : AimS X W R H F D ((ra ρ).out f))
    (hn : ∀ c ρ1, c.frz.truth = none → f c ρ1 = .no)
    (hk : ∀ c ρ1 k H1 F1, c.frz.truth = some k → Rel X.K X.mg R ρ1 σ H1 F1 → Stp F H F1 H1 → AimS X W R H1 F1 D (f c ρ1) → Qa k H1) : tT X W ra σ H Qa := by
  refine ⟨R, ρ, F, rel, (AimS.fst hm).imp fun c ρ1 h => ?_⟩
  cases q : c.frz.truth with
  | none =>
    have h' := h
    rw [hn c ρ1 q] at h'
    exact h'.elim
  | some k =>
    refine ⟨k, rfl, fun H1 pb => ?_⟩
    obtain ⟨F1, rel1, st⟩ := pb
    exact hk c ρ1 k H1 F1 q rel1 st (AimS.stp st h)
theorem PV.rt {c : Cell} {u : V} {H' : Hp} {ρ' : Env} (h : PV X.K X.mg R σ H F ρ' c u H') (q : AimS X W R H F D (.rt c)) : D.rt u H' := by
  obtain ⟨F', Fc, rel, cr, nd, ap, st⟩ := h
  exact q u H' Fc (cr.evo ⟨fun _ _ q _ => q, fun b z => .inl (.inr z)⟩ fun _ _ _ q => q) nd ap ⟨fun b o q n => st.keep b o q n, st.live, fun b hb => st.old b (List.mem_append_left _ hb)⟩
/-- a cell goes into a slot -/
theorem PV.set {c : Cell} {u : V} {H' : Hp} {ρ' : Env} (i : Nat) (h : PV X.K X.mg R σ H F ρ' c u H') : ∃ F', Rel X.K X.mg R (ρ'.set i (some c)) (σ.set i (some u)) H' F' ∧ Stp F H F' H' := by
  obtain ⟨F', Fc, rel, cr, nd, ap, st⟩ := h
  obtain ⟨F2, h2, rel2⟩ := rel.set (c' := some c) (v' := some u) i cr nd ap
  exact ⟨F2, rel2, st.trans (Stp.sub fun p hp => List.mem_append.mpr (h2 p hp))⟩
theorem PV.setF {c : Cell} {u : V} {H' : Hp} {ρ' : Env} (i : Nat) (h : PV X.K X.mg R σ H F ρ' c u H') : ∃ F', Rel X.K X.mg R (ρ'.set i (some (.val c.frz))) (σ.set i (some u)) H' F' ∧ Stp F H F' H' := by
  obtain ⟨F', rel, v, st⟩ := h.frz
  obtain ⟨F2, h2, rel2⟩ := rel.put i v
  exact ⟨F2, rel2, st.trans (Stp.sub h2)⟩
end

section
variable {X : Cx} {W : WX} {ra : Env → Res Cell} {e : Expr} {st : Stmt} {sts : List Stmt} {f g : Env → Out} {pos : Pos}
theorem pss_nilE : PSs X [] (tS X W fun ρ => .nx ρ) := pss_nil.impB fun pins s D σ H I ⟨R, ρ, F, rel, h⟩ => h σ H F rel .refl
theorem pss_consE (h1 : PS X st (tS X W f)) (h2 : PSs X sts (tS X W g)) : PSs X (st :: sts) (tS X W fun ρ => (f ρ).andThen g) :=
  (pss_cons h1 h2).impB fun pins s D σ H I ⟨R, ρ, F, rel, h⟩ => by
    refine ⟨R, ρ, F, rel, ?_⟩
    have h : AimS X W R H F D ((f ρ).andThen g) := h
    cases q : f ρ with
    | nx ρ' => rw [q] at h; exact fun σ' H' F' r s => ⟨R, ρ', F', r, AimS.stp s h⟩
    | rt c => rw [q] at h; exact h
    | ex x ρ' => rw [q] at h; exact h
    | no => rw [q] at h; exact h
theorem ps_passE : PS X (.Pass pos) (tS X W fun ρ => .nx ρ) := ps_pass.impB fun pins s D σ H I ⟨R, ρ, F, rel, h⟩ => h σ H F rel .refl
theorem ps_retE (he : PE X e (tE X W ra)) : PS X (.Return (some e) pos) (tS X W fun ρ => (ra ρ).out fun c _ => .rt c) :=
  (ps_ret he).impB fun pins s D σ H I ⟨R, ρ, F, rel, h⟩ => tE.out rel h fun c ρ1 x H1 pv q => pv.rt q
theorem ps_retNE : PS X (.Return none pos) (tS X W fun _ => .rt (.val .non)) :=
  ps_retN.impB fun pins s D σ H I ⟨R, ρ, F, rel, h⟩ => h .non H [] ⟨rfl, rfl⟩ List.nodup_nil (fun _ z => nomatch z) ⟨fun b o q _ => q, fun _ q => q, fun _ z => nomatch z⟩
theorem ps_exprE (he : PE X e (tE X W ra)) (hs : swapsWith e none pos.line X.env = pure false) : PS X (.Expr e pos) (tS X W fun ρ => (ra ρ).out fun _ ρ => .nx ρ) :=
  (ps_expr he hs).impB fun pins s D σ H I ⟨R, ρ, F, rel, h⟩ => tE.out rel h fun c ρ1 x H1 pv q => by
    obtain ⟨F1, rel1, v, st⟩ := pv.frz
    exact q σ H1 F1 rel1 st
theorem tAsg_ok {i : Nat} (k : Bool) {pins : List (Addr × Obj)} {s : Shared} {D : Ends} {σ : L2.St} {H : Hp} (h : tS X W (fun ρ => (ra ρ).out fun c ρ => .nx (ρ.set i (some (if k then .val c.frz else c)))) D σ H) : tAsg (tE X W ra) (gName i) D σ H := by
  obtain ⟨R, ρ, F, rel, h⟩ := h
  refine tE.out rel h fun c ρ1 x H1 pv q => ?_
  cases k with
  | true =>
    obtain ⟨F', r, st⟩ := pv.setF i
    exact q _ H1 F' r st
  | false =>
    obtain ⟨F', r, st⟩ := pv.set i
    exact q _ H1 F' r st
theorem ps_iteE {c : Expr} {a b : List Stmt} {rc : Env → Res Cell} (hc : PT X c (tT X W rc)) (ha : PSs X a (tS X W f)) (hb : PSs X b (tS X W g)) : PS X (.If c a b pos) (tS X W fun ρ => (rc ρ).out fun k ρ => match k.frz.truth with
    | some true => f ρ
    | some false => g ρ
    | none => .no) :=
  (ps_if hc ha hb).impB fun pins s D σ H I ⟨R, ρ, F, rel, h⟩ => tT.out rel h (fun c ρ1 q => by rw [q]) fun c ρ1 k H1 F1 q rel1 st h1 => by
    rw [q] at h1
    cases k with
    | true =>
      rw [if_pos rfl]
      exact ⟨R, ρ1, F1, rel1, h1⟩
    | false =>
      rw [if_neg Bool.false_ne_true]
      exact ⟨R, ρ1, F1, rel1, h1⟩

/-! ### for -/
theorem for_ok {tgt : Tg} {ri : Env → Res (List Bw.D)} {D : Ends} {σ : L2.St} {H : Hp} (h : tS X W (fun ρ => (ri ρ).out fun ds ρ => forL tgt f ds ρ) D σ H) : tFor (tI X W ri) (gTg X.K tgt) (tS X W f) D σ H := by
  obtain ⟨R, ρ, F, rel, h⟩ := h
  refine ⟨R, ρ, F, rel, (AimS.fst h).imp fun ds ρ1 h J H1 F1 rel1 st src => ?_⟩
  have h := AimS.stp st h
  refine for_it src.walk (fun i σ2 H2 => ∃ ρ2 F2, Rel X.K X.mg R ρ2 σ2 H2 F2 ∧ Stp F1 H1 F2 H2 ∧ AimS X W R H2 F2 D (forL tgt f (ds.drop i) ρ2)) ⟨ρ1, F1, rel1, .refl, h⟩ ?_ ?_ ?_
  · rintro i σ2 H2 _ ⟨ρ2, F2, rel2, st2, _⟩
    exact ⟨_, st2.evo R⟩
  · rintro i x σ2 H2 H3 hi ⟨ρ2, F2, rel2, st2, h2⟩ y
    obtain ⟨d, ed, vd, k⟩ := y _ (st2.evo R) rel2.live
    have e1 : ds.drop i = d :: ds.drop (i + 1) := by
      rw [List.drop_eq_getElem_cons hi]
      rw [List.getElem?_eq_getElem hi] at ed
      cases ed
      rfl
    rw [e1] at h2
    unfold forL at h2
    cases hp : tgt.put d ρ2 with
    | none => rw [hp] at h2; exact h2.elim
    | some ρ3 =>
      rw [hp] at h2
      have h2 : AimS X W R H2 F2 D ((f ρ3).andThen fun ρ4 => forL tgt f (ds.drop (i + 1)) ρ4) := h2
      refine gTg_ok (rel2.grow k) vd hp fun σ3 F3 rel3 h3 _ => ⟨R, ρ3, F3, rel3, ?_⟩
      have s3 : Stp F2 H2 F3 H3 := (Stp.grow k).trans (Stp.sub h3)
      have h2 := AimS.stp s3 h2
      cases q : f ρ3 with
      | nx ρ4 => rw [q] at h2; exact fun σ' H' F' r s => ⟨ρ4, F', r, (st2.trans s3).trans s, AimS.stp s h2⟩
      | rt c => rw [q] at h2; exact h2
      | ex x ρ4 => rw [q] at h2; exact h2
      | no => rw [q] at h2; exact h2
  · rintro σ2 H2 ⟨ρ2, F2, rel2, st2, h2⟩
    rw [List.drop_length] at h2
    exact h2 σ2 H2 F2 rel2 .refl
theorem ps_forE {tg iter : Expr} {body : List Stmt} {tgt : Tg} {ri : Env → Res (List Bw.D)} (hp : PassesOwn (model X.prog X.w) X.A X.env X.xe) (hc : X.calm = true) (hi : PI X tg iter (tI X W ri)) (hg : PG X tg (gTg X.K tgt)) (hb : PSs X body (tS X W f))
    (hs : ∀ x, foldedSetIterable iter X.env x = pure x) : PS X (.For tg iter body [] pos) (tS X W fun ρ => (ri ρ).out fun ds ρ => forL tgt f ds ρ) :=
  (ps_for hp hc hi hg hb hs).impB fun pins s D σ H I h => for_ok h
/-! ### while -/
theorem ps_whE {c : Expr} {body : List Stmt} {rc : Env → Res Cell} {n : Nat} (hp : PassesOwn (model X.prog X.w) X.A X.env X.xe) (hc : PT X c (tT X W rc)) (hb : PSs X body (tS X W f)) : PS X (.While c body [] pos) (tS X W fun ρ => whL rc f n ρ) :=
  (ps_while hp hc hb).impB fun pins s D σ H I ⟨R, ρ, F, rel, h⟩ => by
    refine ⟨fun m σ2 H2 => ∃ ρ2 F2, Rel X.K X.mg R ρ2 σ2 H2 F2 ∧ AimS X W R H2 F2 D (whL rc f m ρ2), ⟨n, ρ, F, rel, h⟩, ?_⟩
    rintro m σ2 H2 ⟨ρ2, F2, rel2, h2⟩
    cases m with
    | zero => exact h2.elim
    | succ m =>
      unfold whL at h2
      refine tT.out rel2 h2 (fun c ρ1 q => by rw [q]) fun c ρ3 k H3 F3 q rel3 st3 h3 => ?_
      rw [q] at h3
      cases k with
      | true =>
        rw [if_pos rfl]
        refine ⟨fun σ' H' => ∃ ρ2 F2, Rel X.K X.mg R ρ2 σ' H' F2 ∧ AimS X W R H' F2 D (whL rc f m ρ2), fun σ' H' z => ⟨m, Nat.lt_succ_self m, z⟩, R, ρ3, F3, rel3, ?_⟩
        have h3 : AimS X W R H3 F3 D ((f ρ3).andThen fun ρ4 => whL rc f m ρ4) := h3
        cases q : f ρ3 with
        | nx ρ4 => rw [q] at h3; exact fun σ' H' F' r s => ⟨ρ4, F', r, AimS.stp s h3⟩
        | rt c => rw [q] at h3; exact h3
        | ex x ρ4 => rw [q] at h3; exact h3
        | no => rw [q] at h3; exact h3
      | false =>
        rw [if_neg Bool.false_ne_true]
        exact h3 σ2 H3 F3 rel3 .refl
end
end Bw

set_option Elab.async false
set_option linter.all false
set_option maxRecDepth 100000
/-! Bw14: append, raise, calls. -/
namespace Bw
open PySem PySem.Spec PyProof.Rows L2

section
variable {X : Cx} {W : WX} {ra : Env → Res Cell} {rs : Env → Res (List D)} {a e : Expr} {es : List Expr} {pos apos p q : Pos} {R : Av} {σ : L2.St} {H : Hp} {ρ : Env} {F : List Addr}
/-! ### a list of its own grows -/
theorem Rel.own {i : Nat} {ds : List D} (rel : Rel X.K X.mg R ρ σ H F) (e : ρ.get i = some (.own ds)) : ∃ p ws, σ[i]? = some (some (.ref p)) ∧ H p = some (.lst ws) ∧ VRs X.K X.mg (fun p => p ∈ F ∨ R p) H ds ws ∧
    ∀ d y, VR X.K X.mg (fun p => p ∈ F ∨ R p) H d y → ∃ F', Rel X.K X.mg R (ρ.set i (some (.own (ds ++ [d])))) σ (upd H p (.lst (ws ++ [y]))) F' ∧ Stp F H F' (upd H p (.lst (ws ++ [y]))) := by
  have hi := Env.get_eq e
  obtain ⟨c', v, Fi, G, e1, e2, pm, s, put⟩ := rel.er.at i (List.getElem?_eq_some_iff.mp hi).1
  rw [hi] at e1
  cases e1
  cases v with
  | none => exact s.elim
  | some v =>
    obtain ⟨p, ws, rfl, rfl, hp, rs⟩ := s
    have nd : ([p] ++ G).Nodup := pm.nodup_iff.mp rel.nd
    have pG : p ∉ G := (List.nodup_cons.mp nd).1
    have mF : ∀ b, b ∈ F ↔ b ∈ [p] ∨ b ∈ G := fun b => by rw [pm.mem_iff, List.mem_append]
    have pF : p ∈ F := (mF p).mpr (.inl (by simp))
    refine ⟨p, ws, e2, hp, rs, fun d y r => ?_⟩
    have ev : Evo (fun p => p ∈ F ∨ R p) H (fun p => p ∈ F ∨ R p) (upd H p (.lst (ws ++ [y]))) := ⟨fun b u q n => by rw [upd_ne (show b ≠ p from fun z => n (.inl (z ▸ pF)))]; exact q, fun b z => .inl z⟩
    obtain ⟨F', pm', er'⟩ := put (some (.own (ds ++ [d]))) (some (.ref p)) [p] ev (fun b hb u q => by rw [upd_ne (show b ≠ p from fun z => pG (z ▸ hb))]; exact q) ⟨p, ws ++ [y], rfl, rfl, upd_same, (rs.evo ev).append (VRs.cons (r.evo ev) VRs.nil)⟩
    have es : σ.set i (some (.ref p)) = σ := by
      apply List.ext_getElem?
      intro j
      by_cases hj : i = j
      · subst hj
        rw [List.getElem?_set_self (List.getElem?_eq_some_iff.mp e2).1, e2]
      · rw [List.getElem?_set_ne hj]
    rw [es] at er'
    have mF' : ∀ b, b ∈ F' ↔ b ∈ F := fun b => by rw [pm'.mem_iff, List.mem_append, mF b]
    refine ⟨F', ⟨er'.evo ⟨fun _ _ q _ => q, fun b q => .inl (q.elim (fun z => .inl ((mF' b).mp z)) .inr)⟩ fun _ _ _ q => q, pm'.nodup_iff.mpr nd, fun b hb => rel.ap b ((mF' b).mp hb), fun b z => ?_⟩, (Stp.write pF).trans (Stp.sub fun b hb => (mF' b).mp hb)⟩
    by_cases e : b = p
    · rw [e, upd_same]; simp
    · rw [upd_ne e]; exact rel.lv b z
theorem ps_appE {i : Nat} {x : Str} {epos : Pos} (hN : X.N[i]? = some x) (hv : Vis X.env.scope x) (hd : (x == ("__debug__" : Str)) = false) (hcd : (x == ("__classdict__" : Str)) = false) (ha : PE X a (tE X W ra))
    (hfew : ((backTo p (starEach [a] X.env)).all (fun x => !x.1) && (backToKw p (keywordEach [] X.env)).all (fun x => x.1.isSome)
      && decide ([a].length + ([] : List Keyword).length + (if ([] : List Keyword).isEmpty then 0 else 1) < 30)) = true)
    (hline : (apos.endLine == p.line) = true) (hs : starEach [a] X.env = (false, eval a X.env) :: starEach [] X.env) :
    PS X (.Expr (.Call (.Attribute (.Name x q) "append" apos) [a] [] p) epos) (tS X W fun ρ => match ρ.get i with
    | some (.own _) => (ra ρ).out fun c ρ => (match ρ.get i with
      | some (.own ds) => if ds.length < LIM then .nx (ρ.set i (some (.own (ds ++ [c.frz])))) else .no
      | _ => .no)
    | _ => .no) :=
  (ps_expr (pe_bm PySem.F.plainAttrs_list PySem.F.slot_list_append PySem.F.type_list_append mt_append (pe_var hN hv hd hcd) (pa_cons ha pa_nil hs) rfl hfew hline hs rfl) rfl).impB fun pins s D σ H I ⟨R, ρ, F, rel, h⟩ => by
    dsimp only at h
    cases e0 : ρ.get i with
    | none => rw [e0] at h; exact h.elim
    | some c0 =>
      rw [e0] at h
      cases c0 with
      | val d => exact h.elim
      | own ds0 =>
        obtain ⟨p, ws, e2, hp, rs, _⟩ := rel.own e0
        refine ⟨.ref p, e2, .inl ⟨rfl, ws, .inl (.inl hp)⟩, tE.out rel h fun c ρ1 y H1 pv h1 => ?_⟩
        obtain ⟨F1, rel1, v1, st1⟩ := pv.frz
        cases e1 : ρ1.get i with
        | none => rw [e1] at h1; exact h1.elim
        | some c1 =>
          rw [e1] at h1
          cases c1 with
          | val d => exact h1.elim
          | own ds =>
            have h1 : AimS X W R H F D (if ds.length < LIM then .nx (ρ1.set i (some (.own (ds ++ [c.frz])))) else .no) := h1
            split at h1
            · rename_i hl
              obtain ⟨p', ws', e2', hp', rs', up⟩ := rel1.own e1
              rw [e2] at e2'
              cases e2'
              obtain ⟨F2, rel2, st2⟩ := up c.frz y v1
              exact ⟨p, ws', y, rfl, rfl, hp', by rw [lim_eq, ← rs'.length]; exact hl, h1 σ _ F2 rel2 (st1.trans st2)⟩
            · exact h1.elim

/-! ### raise of a class with its own __init__ that stores one field -/
def spI (f : Str) (C : Addr) : Sp := fun vs H Q _ => ∃ a x, vs = [.ref a, x] ∧ H a = some (exo a C none) ∧ ∀ d, H d = none → d ≠ a → Q .non (upd (upd H d (exd d [(f, x)])) a (exo a C (some d)))
/-- an exception class of the program, with its field f -/
structure ExF (P : Program) (w : World) (K : PySem.W.Frag) (mg : Str → Option Value) (base : Heap) (k : Nat) (x f : Str) : Prop where
  ex : ∃ C fI fd ps, mg x = some (.ref C) ∧ OexC K C ∧ PySem.W.findIn K (.ref C) "__init__" = some (some (.ref fI)) ∧ PySem.W.typeIn K (.ref fI) = some (.type "function") ∧ FnOk P w K mg base (L2.CX P w) k fI fd ps (spI f C) ∧ Binds K fd ps [] ∧ XfC K C ∧ PySem.W.findIn K (.ref C) f = some none
theorem ps_raiseE {x f : Str} {k : Nat} (hc : X.calm = true) (tk : Takes X W) (T : ExF X.prog X.w X.K X.mg X.base k x f) (hr : Room (k + 1) X.A) (hg : Gl X x) (ha : PA X (e :: es) (tA X W rs)) (hdb : (x == ("__debug__" : Str)) = false)
    (he : starEach (e :: es) X.env = (false, eval e X.env) :: starEach es X.env) (hpl : (backTo pos (starEach es X.env)).any (·.1) = false) :
    PS X (.Raise (some (.Call (.Name x p) (e :: es) [] pos)) none q) (tS X W fun ρ => (rs ρ).out fun ds ρ => match ds with
    | [d] => .ex ⟨x, some (f, d)⟩ ρ
    | _ => .no) := by
  obtain ⟨C, fI, fd, ps, hm, T1, iC, tI, Fn, hb, xf⟩ := T.ex
  refine (ps_raise hc tk (pmk_oex T1 iC tI Fn hr hb .nil (fun pins σ H s e s' I c => ?_) hg hm ha hdb he hpl)).impB fun pins s D σ H I ⟨R, ρ, F, rel, h⟩ => ?_
  · obtain ⟨_, _, _, _, _, _, _, _, _, _, _, _, z⟩ := c
    exact z.elim
  · refine ⟨R, ρ, F, rel, (AimS.fst h).imp fun ds ρ1 h1 us H1 F1 rel1 vs st => ?_⟩
    have h1 := AimS.stp st h1
    cases ds with
    | nil => exact h1.elim
    | cons d r =>
      cases r with
      | cons _ _ => exact h1.elim
      | nil =>
        obtain ⟨v, _, rfl, r1, rfl⟩ := vs
        refine ⟨by simp, fun a na => ⟨a, v, rfl, upd_same, fun d' nd ne => ⟨rfl, d', [(f, v)], upd_same, ?_, ?_, ?_⟩⟩⟩
        · rw [upd_ne ne, upd_same]
        · rw [upd_ne ne] at nd
          exact nd
        · rw [upd_ne ne] at nd
          have eH : upd (del (upd (upd (upd H1 a (exo a C none)) d' (exd d' [(f, v)])) a (exo a C (some d'))) a) d' (.xd [(f, v)]) = upd H1 d' (.xd [(f, v)]) := by
            funext b
            by_cases e1 : b = d'
            · rw [e1, upd_same, upd_same]
            · rw [upd_ne e1, upd_ne e1]
              by_cases e2 : b = a
              · rw [e2, del_same, na]
              · rw [del_ne e2, upd_ne e2, upd_ne e1, upd_ne e2]
          rw [eH]
          have st' : Stp F1 H1 F1 (upd H1 d' (.xd [(f, v)])) := Stp.new' nd
          exact h1 σ _ _ _ F1 (rel1.grow fun b o q => by rw [upd_ne (ne_of_none q nd)]; exact q) ⟨C, hm, rfl, xf, d', v, rfl, upd_same, r1.evo (st'.evo R)⟩ st'
end
/-! ### calls -/
/-- what a def promises -/
def spF (K : PySem.W.Frag) (mg : Str → Option Value) (r : List D → CR) (n : Nat) : Sp := fun vs H Q E => ∃ (R : Av) (ds : List D), (∀ p, R p → H p ≠ none) ∧ VRs K mg R H ds vs ∧ ds.length = n ∧ match r ds with
  | .ok c => ∀ u H' Fc, CRel K mg (fun p => p ∈ Fc ∨ R p) H' c u Fc → Fc.Nodup → (∀ p ∈ Fc, ¬ R p) → Stp [] H Fc H' → Q u H'
  | .ex x => ∀ cls d H', XR K mg R x cls d H' → Stp [] H [] H' → E cls d H'
  | .no => False
/-- a def that may be called -/
structure FnC (P : Program) (w : World) (K : PySem.W.Frag) (mg : Str → Option Value) (base : Heap) (k : Nat) (x : Str) (r : List D → CR) (n : Nat) : Prop where
  ex : ∃ a fd ps, mg x = some (.ref a) ∧ PySem.W.keepIn K (.ref a) = true ∧ Binds K fd ps [] ∧ FnOk P w K mg base (L2.CX P w) k a fd ps (spF K mg r n)
section
variable {X : Cx} {W : WX} {R : Av} {σ : L2.St} {H H' : Hp} {ρ : Env} {F Fc : List Addr}
theorem Rel.ext (rel : Rel X.K X.mg R ρ σ H F) (st : Stp [] H Fc H') (ap : ∀ p ∈ Fc, ¬ (p ∈ F ∨ R p)) (lv : ∀ p ∈ Fc, H' p ≠ none) : Rel X.K X.mg (fun p => p ∈ Fc ∨ R p) ρ σ H' F := by
  have k : ∀ b o, H b = some o → H' b = some o := fun b o q => st.keep b o q fun z => nomatch z
  refine ⟨rel.er.evo ⟨fun b o q _ => k b o q, fun b z => ?_⟩ fun p _ o q => k p o q, rel.nd, fun p hp z => ?_, fun p z => ?_⟩
  · rcases z with z | z | z
    · exact .inl (.inl z)
    · exact .inr ((st.old b z).elim (fun y => nomatch y) id)
    · exact .inl (.inr z)
  · rcases z with z | z
    · exact ap p z (.inl hp)
    · exact rel.ap p hp z
  · rcases z with z | z
    · exact lv p z
    · exact st.live p (rel.lv p z)
/-- what is asked of a call's end -/
theorem call_ok {r : List D → CR} {n : Nat} {ds : List D} {vs : List V} {Q : VK} (rel : Rel X.K X.mg R ρ σ H F) (rs : VRs X.K X.mg (fun p => p ∈ F ∨ R p) H ds vs) (hn : r ds ≠ .no → ds.length = n)
    (h : AimV X W R σ H F Q (match r ds with
      | .ok c => .ok c ρ
      | .ex x => .ex x ρ
      | .no => .no)) : spF X.K X.mg r n vs H Q (WE W σ) := by
  refine ⟨fun p => p ∈ F ∨ R p, ds, rel.live, rs, hn fun e => ?_, ?_⟩
  · rw [e] at h
    exact h
  cases q : r ds with
  | no => rw [q] at h; exact h
  | ok c =>
    rw [q] at h
    intro u H' Fc cr nd ap st
    refine h u H' ⟨F, Fc, rel.ext st ap cr.live, ?_, nd, fun p hp z => ap p hp (.inr z), ⟨fun b o q n => st.keep b o q fun z => (nomatch z), st.live, fun b hb => ?_⟩⟩
    · refine cr.evo ⟨fun _ _ q _ => q, fun b z => .inl ?_⟩ fun _ _ _ q => q
      rcases z with z | z | z
      · exact .inr (.inl z)
      · exact .inl z
      · exact .inr (.inr z)
    · rcases List.mem_append.mp hb with z | z
      · exact .inr ((st.old b z).elim (fun y => nomatch y) id)
      · exact .inl z
  | ex x =>
    rw [q] at h
    intro cls d H' xr st
    have k : ∀ b o, H b = some o → H' b = some o := fun b o q => st.keep b o q fun z => nomatch z
    exact h cls d H' ⟨F, rel.grow k, xr, Stp.grow k⟩
variable {rs : Env → Res (List D)} {ra : Env → Res Cell} {a e : Expr} {es : List Expr} {pos p : Pos}
theorem pe_callE {x : Str} {r : List D → CR} {n k : Nat} (T : FnC X.prog X.w X.K X.mg X.base k x r n) (hr : Room k X.A) (tk : Takes X W) (hg : Gl X x) (hn : ∀ ds, r ds ≠ .no → ds.length = n) (ha : PA X (e :: es) (tA X W rs)) (hdb : (x == ("__debug__" : Str)) = false)
    (he : starEach (e :: es) X.env = (false, eval e X.env) :: starEach es X.env) (hpl : (backTo pos (starEach es X.env)).any (·.1) = false) :
    PE X (.Call (.Name x p) (e :: es) [] pos) (tE X W fun ρ => (rs ρ).bind fun ds ρ => match r ds with
    | .ok c => .ok c ρ
    | .ex x => .ex x ρ
    | .no => .no) := by
  obtain ⟨f, fd, ps, hm, hk, hb, Fn⟩ := T.ex
  exact (pe_callS (E := WE W) Fn hr hg hm hk hb (passAt tk) ha hdb he hpl).impB fun pins s σ H Q I ⟨R, ρ, F, rel, hm⟩ => tA.bind rel hm fun ds ρ1 xs H1 F1 rel1 vs st h1 => call_ok rel1 vs (hn ds) h1
/-- a def held by a value -/
theorem pe_callvE {Γ : Str → List D → CR} {k : Nat} (T : ∀ x ds, Γ x ds ≠ .no → FnC X.prog X.w X.K X.mg X.base k x (Γ x) ds.length) (hr : Room k X.A) (tk : Takes X W) (hf : PE X a (tE X W ra)) (ha : PA X (e :: es) (tA X W rs))
    (hc : eval (.Call a (e :: es) [] pos) X.env = (do callWith pos (← eval a X.env) [] (backTo pos (starEach (e :: es) X.env)) (backToKw pos (keywordEach [] X.env))))
    (he : starEach (e :: es) X.env = (false, eval e X.env) :: starEach es X.env) (hpl : (backTo pos (starEach es X.env)).any (·.1) = false) :
    PE X (.Call a (e :: es) [] pos) (tE X W fun ρ => (ra ρ).bind fun x ρ => match x.frz with
    | .fn g => (rs ρ).bind fun ds ρ => match Γ g ds with
      | .ok c => .ok c ρ
      | .ex x => .ex x ρ
      | .no => .no
    | _ => .no) := by
  refine ⟨fun pins s σ H Q I ⟨R, ρ, F, rel, hm⟩ => Call_ ?_ hc⟩
  refine thn (hf.run pins s σ H (fun x H1 => ∃ (f : Addr) (g : Str), x = .ref f ∧ X.mg g = some (.ref f) ∧ PySem.W.keepIn X.K (.ref f) = true ∧ tA X W rs σ H1 fun us H2 => ∃ ds, Γ g ds ≠ .no ∧ spF X.K X.mg (Γ g) ds.length us H2 Q (WE W σ)) I
    (tE.bind rel hm fun c ρ1 x H1 F1 rel1 v st h1 => ?_)) fun fv s1 ⟨x, H1, I1, r1, f, g, ex, hmg, hk, h1⟩ => ?_
  · cases q : c.frz with
    | fn g =>
      rw [q] at h1 v
      obtain ⟨f, rfl, hmg, hk⟩ := v
      refine ⟨f, g, rfl, hmg, hk, tA.bind rel1 h1 fun ds ρ2 us H2 F2 rel2 vs st2 h2 => ⟨ds, fun e => ?_, call_ok rel2 vs (fun _ => rfl) h2⟩⟩
      rw [e] at h2
      exact h2
    | _ => rw [q] at h1; exact h1.elim
  · subst ex
    obtain rfl : fv = .ref f := r1
    refine PySem.W.callWith_K (h₀ := X.base) I1.ok.mod.kin hk (thn (ha.run pos pins s1 σ H1 _ I1 h1) fun us s2 ⟨vs, H2, I2, r2, ds, hn, hsp⟩ => ⟨I2.kIn, ?_⟩) he hpl
    obtain ⟨f', fd, ps, hm', _, hb, Fn⟩ := (T g ds hn).ex
    rw [hmg] at hm'
    cases hm'
    exact run_fnS Fn hr hb (passAt tk σ) I2 r2 hsp
end
end Bw

set_option Elab.async false
set_option linter.all false
set_option maxRecDepth 100000
/-! Bw15: try with clauses that may name what they catch. -/
namespace Bw
open PySem PySem.Spec PyProof.Rows L2

/-- a clause: its class, the slot of its name, its suite -/
structure Cl where
  c : Value
  slot : Option Nat
  ts : Addr → Value → Option Addr → TS
def Cl.st (q : Cl) (a : Addr) (σ : L2.St) : L2.St := match q.slot with
  | none => σ
  | some i => σ.set i (some (.ref a))
def Cl.ends (q : Cl) (D : Ends) : Ends := match q.slot with
  | none => D
  | some i => { nx := fun σ H => D.nx (σ.set i none) H, rt := D.rt, bk := fun σ H => D.bk (σ.set i none) H, ct := fun σ H => D.ct (σ.set i none) H }
def wCl (K : PySem.W.Frag) (W : WX) (D : Ends) : List Cl → WX
  | [] => W
  | q :: l => fun cls d σ H => ∃ b, PySem.W.exmOne K cls q.c = some b ∧ (b = true → ∀ a, H a = none → q.ts a cls d (q.ends D) (q.st a σ) H) ∧ (b = false → wCl K W D l cls d σ H)
/-- the slot of a clause's name -/
def SlotOk (X : Cx) : Option Nat → Option Str → Prop
  | none, none => True
  | some i, some n => X.N[i]? = some n ∧ X.env.kindOf n = some .local
  | _, _ => False
inductive ClOk (X : Cx) : List ExceptHandler → List Cl → Prop
  | nil : ClOk X [] []
  | cons {x : Str} {n : Option Str} {q : Cl} {b : Stmt} {bs : List Stmt} {p1 p2 : Pos} {hs : List ExceptHandler} {l : List Cl} (hc : Names X x q.c) (hn : SlotOk X q.slot n)
      (ht : ∀ (a : Addr) (oe : Obj) (cls : Value) (d : Option Addr) (pn : List (Addr × Obj)), Zc cls d oe → (∃ vs, oe.data = .fields vs) → PSs (X.suite a ((a, oe) :: pn)) (b :: bs) (q.ts a cls d)) (r : ClOk X hs l) :
      ClOk X (.ExceptHandler (some (.Name x p1)) n (b :: bs) p2 :: hs) (q :: l)

/-- an exception that was caught: the ground B, the state sI without it -/
structure Caught (X : Cx) (pins : List (Addr × Obj)) (σ : L2.St) (H : Hp) (cls : Value) (d : Option Addr) (a : Addr) (B : Heap) (sI s : Shared) : Prop where
  fl : HandSPX.FlyingZ B (X.env :: X.outer) a (Zc cls d) s.heap
  J : Inv X pins σ H sI
  nb : ∀ b o, sI.heap.get? b = some o → b ∉ frs X.stack → B.get? b = some o
  up : sI.heap.UpToSlots s.heap
  na : H a = none
  os : s.os = sI.os
  ag : AllBare s.gens
section
variable {X : Cx} {pins : List (Addr × Obj)} {σ : L2.St} {H : Hp} {cls : Value} {d : Option Addr} {a : Addr} {B : Heap} {sI s : Shared} {W : WX} {D : Ends}
theorem Caught.again (c : Caught X pins σ H cls d a B sI s) {h : Heap} (fl : HandSPX.FlyingZ B (X.env :: X.outer) a (Zc cls d) h) (up : s.heap.UpToSlots h) : Caught X pins σ H cls d a B sI { s with heap := h } :=
  ⟨fl, c.J, c.nb, c.up.trans up, c.na, c.os, c.ag⟩
theorem Caught.inv (c : Caught X pins σ H cls d a B sI s) : Inv X pins σ H s := c.J.landed c.nb c.fl.1 c.up c.os c.ag
theorem Caught.suite (c : Caught X pins σ H cls d a B sI s) (hf : X.env.frame = some X.env.locals) : ∃ oe vs, s.heap.get? a = some oe ∧ Zc cls d oe ∧ oe.data = .fields vs ∧ Inv (X.suite a ((a, oe) :: (X.pn ++ pins))) [] σ H s := by
  obtain ⟨oe, vs, he, hz, hd⟩ := c.fl.there
  have out : a ∉ frs (X.env :: X.outer) := fun hm => by
    obtain ⟨_, o, e, hnf⟩ := c.fl.2.2.1.mem hm
    rw [he] at e
    cases e
    exact hnf _ hd
  refine ⟨oe, vs, he, hz, hd, c.inv.suite he hd c.na (fun z => out ?_) fun hm => out ?_⟩
  · exact List.mem_filterMap.mpr ⟨X.env, List.mem_cons_self, by rw [hf, z]⟩
  · obtain ⟨e, he, q⟩ := List.mem_filterMap.mp hm
    exact List.mem_filterMap.mpr ⟨e, List.mem_cons_of_mem _ he, q⟩
/-- no clause fits -/
theorem Caught.on (c : Caught X pins σ H cls d a B sI s) (hs : X.stack = X.env :: X.outer) (hf : X.env.frame = some X.env.locals) (tk : Takes X W) (w : W cls d σ H) : wpAny (model X.prog X.w) X.A (handleBy (.ref a) X.env []) (SP X pins D) X.xe s := by
  refine wpAny_handleBy_nil ?_
  obtain ⟨_, _, _, oe, vs, T, _, _, he, _, hd, h1, _⟩ := id c.fl
  unfold PySem.passOn
  refine wpAny_bind (wpAny_field he hd h1 ?_)
  rw [if_neg (show ¬ ((Value.ref T == Value.none) = true) by simp)]
  have last : wpAny (model X.prog X.w) X.A (setFlight (.ref a) X.env.frame) (fun _ t => wpAny (model X.prog X.w) X.A (throw (.ref a) : Sem Flow) (SP X pins D) X.xe t) X.xe s := by
    rw [hf]
    refine HandSPX.setFlight_upZ c.fl fun h hh up => wpAny_throw (tk _ _ ?_)
    exact ⟨a, B, sI, pins, σ, H, cls, d, rfl, c.J, c.nb, c.up.trans up, .inr (.inr (by rw [hs]; exact hh)), c.na, c.os, c.ag, w⟩
  first
    | exact wpAny_bind (wpAny_pure (wpAny_bind last))
    | exact wpAny_bind last
/-- the clauses -/
theorem Caught.by (hs : X.stack = X.env :: X.outer) (hf : X.env.frame = some X.env.locals) (hN : X.N.Nodup) (tk : Takes X W) {hds : List ExceptHandler} {l : List Cl} (k : ClOk X hds l) (c : Caught X pins σ H cls d a B sI s) (w : wCl X.K W D l cls d σ H) :
    wpAny (model X.prog X.w) X.A (handleBy (.ref a) X.env hds) (SP X pins D) X.xe s := by
  induction k with
  | nil => exact c.on hs hf tk w
  | @cons x n q b bs p1 p2 hds l hc hn ht r ih =>
    obtain ⟨y, ey, yes, no⟩ := w
    obtain ⟨oe, vs, he, hz, hd, S⟩ := c.suite hf
    refine wpAny_handleBy_cons (codeAny_handlers_test ?_) (by intro z; cases z)
    have look : PySem.W.Looks (model X.prog X.w) s.heap (typeOf (.ref a)) cls := fun A Q E t k z => wpAny_typeOf_ref (k _ _ he) (by rw [hz.1]; exact z)
    have cmp := PySem.W.exm_one (M := model X.prog X.w) c.inv.kIn look ey
    have named : ∀ {Q E : Value → Shared → Prop}, Q q.c s → wpAny (model X.prog X.w) (X.A.mark (some (.ref a))) (eval (.Name x p1) X.env) Q E s := fun {Q E} z => by
      obtain ⟨g1, g2, g3 | ⟨g3, g4, g5⟩⟩ := hc
      · exact ld_glob (X := X.suite a ((a, oe) :: (X.pn ++ pins))) S g1 g3 z g2
      · exact ld_blt (X := X.suite a ((a, oe) :: (X.pn ++ pins))) S g1 g3 g4 z g5 g2
    refine named (cmp.here ?_)
    cases y with
    | false => exact ih (no rfl)
    | true =>
      have yes := yes rfl a c.na
      obtain ⟨qc, slot, ts⟩ := q
      cases slot with
      | none =>
        cases n with
        | some _ => exact hn.elim
        | none =>
          refine codeAny_handlers_suite (HandSPX.lands_againZ c.fl fun h fl up => ?_)
          obtain ⟨oe2, vs2, he2, hz2, hd2, S2⟩ := (c.again fl up).suite hf
          refine wpAny_mono ((ht a oe2 cls d (X.pn ++ pins) hz2 ⟨_, hd2⟩).run [] _ _ H _ S2 yes) (fun f t z => ?_) fun _ _ z => z.elim
          cases f with
          | ret u =>
            obtain ⟨v, σ2, H2, S3, r3, z⟩ := z
            exact ⟨v, _, _, S3.unsuite c.J.ok, r3, z⟩
          | next =>
            obtain ⟨σ2, H2, S3, z⟩ := z
            exact ⟨_, _, S3.unsuite c.J.ok, z⟩
          | brk =>
            obtain ⟨σ2, H2, S3, z⟩ := z
            exact ⟨_, _, S3.unsuite c.J.ok, z⟩
          | cont =>
            obtain ⟨σ2, H2, S3, z⟩ := z
            exact ⟨_, _, S3.unsuite c.J.ok, z⟩
      | some i =>
        cases n with
        | none => exact hn.elim
        | some n =>
          obtain ⟨hi, hl⟩ := hn
          refine codeAny_handlers_suite_as (HandSPX.lands_againZ c.fl fun h fl up => ?_)
          obtain ⟨oe2, vs2, he2, hz2, hd2, S2⟩ := (c.again fl up).suite hf
          refine store_ok (X := X.suite a ((a, oe2) :: (X.pn ++ pins))) (v := .ref a) S2 hN hi (.inl hl) rfl (fun s5 S5 => ?_) (.inr hl)
          refine wpAny_mono ((ht a oe2 cls d (X.pn ++ pins) hz2 ⟨_, hd2⟩).run [] s5 _ H _ S5 yes) (fun f t z => ?_) fun _ _ z => z.elim
          have gone : ∀ {σ2 : L2.St} {H2 : Hp} {Q : Shared → Prop}, Inv (X.suite a ((a, oe2) :: (X.pn ++ pins))) [] σ2 H2 t → (∀ t2, Inv X pins (σ2.set i none) H2 t2 → Q t2) →
              wpAny (model X.prog X.w) X.A (do bindName X.env n .none; unbindBehindTheSuite X.env n p2) (fun _ t2 => Q t2) X.xe t := fun {σ2 H2 Q} S6 z => gone_ok (S6.unsuite c.J.ok) hN hi hl z
          cases f with
          | ret u =>
            obtain ⟨v, σ2, H2, S3, r3, z⟩ := z
            exact gone S3 fun t2 J2 => ⟨v, _, _, J2, r3, z⟩
          | next =>
            obtain ⟨σ2, H2, S3, z⟩ := z
            exact gone S3 fun t2 J2 => ⟨_, _, J2, z⟩
          | brk =>
            obtain ⟨σ2, H2, S3, z⟩ := z
            exact gone S3 fun t2 J2 => ⟨_, _, J2, z⟩
          | cont =>
            obtain ⟨σ2, H2, S3, z⟩ := z
            exact gone S3 fun t2 J2 => ⟨_, _, J2, z⟩
theorem ps_tryCl {body : List Stmt} {h₀ : ExceptHandler} {hds : List ExceptHandler} {l : List Cl} {pos : Pos} {tb : WX → TS} (hs : X.stack = X.env :: X.outer) (hf : X.env.frame = some X.env.locals) (hN : X.N.Nodup) (tk : Takes X W)
    (hb : ∀ (W : WX) (pn : List (Addr × Obj)) (xe : Value → Shared → Prop), Takes (X.tr pn xe) W → PassesOwn (model X.prog X.w) X.A X.env xe → PSs (X.tr pn xe) body (tb W)) (hh : ClOk X (h₀ :: hds) l) :
    PS X (.Try body (h₀ :: hds) [] [] pos) (fun D σ H => tb (wCl X.K W D l) D σ H) := by
  refine ⟨fun pins s σ H D I h => wpAny_Try_except ?_⟩
  have ok := I.ok
  have hfr : X.A.frames = some (X.env :: X.outer) := by rw [ok.frames, hs]
  refine wpAny_mono ((hb (wCl X.K W D l) (X.pn ++ pins) (fun e s₁ => wpAny (model X.prog X.w) X.A (noteFrame e X.env) (fun _ s₂ => wpAny (model X.prog X.w) X.A (setFlight e none) (fun _ s₃ =>
    wpAny (model X.prog X.w) X.A (handleBy e X.env (h₀ :: hds)) (SP X pins D) X.xe s₃) X.xe s₂) X.xe s₁) (fun u t xx => ?_) PassesOwn.looking).run [] s σ H D (I.toTry _) h) (fun f t z => ?_) fun _ _ z => z
  · obtain ⟨a, B, sI, pins', σ', H', cls, d, rfl, J, nb, up, sky, na, os, ag, w⟩ := xx
    show wpAny (model X.prog X.w) X.A (noteFrame (.ref a) X.env) _ _ _
    refine Sky.land Zc.steady hfr hf (show Sky B (X.env :: X.outer) a (Zc cls d) X.env.locals t.heap by rw [← hs]; exact sky) fun h3 fl up3 => ?_
    exact Caught.by (sI := sI) (B := B) (s := { t with heap := h3 }) hs hf hN tk hh ⟨fl, J.ofTry ok, nb, up.trans up3, na, os, ag⟩ w
  · cases f with
    | next =>
      obtain ⟨σ2, H2, S3, z⟩ := z
      exact wpAny_execs_nil ⟨_, _, S3.ofTry ok, z⟩
    | ret u =>
      obtain ⟨v, σ2, H2, S3, r3, z⟩ := z
      exact ⟨v, _, _, S3.ofTry ok, r3, z⟩
    | brk =>
      obtain ⟨σ2, H2, S3, z⟩ := z
      exact ⟨_, _, S3.ofTry ok, z⟩
    | cont =>
      obtain ⟨σ2, H2, S3, z⟩ := z
      exact ⟨_, _, S3.ofTry ok, z⟩
end
end Bw

set_option Elab.async false
set_option linter.all false
set_option maxRecDepth 100000
/-! Bw16: what a clause returns. -/
namespace Bw
open PySem PySem.Spec PyProof.Rows L2

section
variable {K : PySem.W.Frag} {mg : Str → Option Value} {A A' : Av} {H H' : Hp}
theorem XR.evo {x : Exn} {cls : Value} {d : Option Addr} (h : XR K mg A x cls d H) (k : ∀ b o, H b = some o → H' b = some o) : XR K mg A x cls d H' := by
  obtain ⟨C, h1, h2, h3⟩ := h
  refine ⟨C, h1, h2, ?_⟩
  cases e : x.arg with
  | none => rw [e] at h3; exact h3
  | some p =>
    obtain ⟨f, z⟩ := p
    rw [e] at h3
    obtain ⟨hx, dd, v, e1, e2, e3⟩ := h3
    exact ⟨hx, dd, v, e1, k _ _ e2, e3.evo ⟨fun b o q _ => k b o q, fun b q => .inl q⟩⟩
end
/-- what is asked of a clause's parts -/
structure HS (X : Cx) (slot : Option Nat) (a : Addr) (cls : Value) (d : Option Addr) (A : Av) (x : Exn) (σ : L2.St) (H : Hp) : Prop where
  xr : XR X.K X.mg A x cls d H
  at_ : ∀ i, slot = some i → σ[i]? = some (some (.ref a))
def tHA (X : Cx) (slot : Option Nat) (a : Addr) (cls : Value) (d : Option Addr) (h : HA) : TE := fun σ H Q => ∃ A x dv, HS X slot a cls d A x σ H ∧ h.val x.arg = some dv ∧ ∀ u, VR X.K X.mg A H dv u → Q u H
def tHAs (X : Cx) (slot : Option Nat) (a : Addr) (cls : Value) (d : Option Addr) (hs : List HA) : TA := fun σ H Q => ∃ A x dvs, HS X slot a cls d A x σ H ∧ allOf (HA.val x.arg) hs = some dvs ∧ ∀ us, VRs X.K X.mg A H dvs us → Q us H
def tHB (X : Cx) (slot : Option Nat) (a : Addr) (cls : Value) (d : Option Addr) (h : HB) : TE := fun σ H Q => ∃ A x dv, HS X slot a cls d A x σ H ∧ h.val x.arg = some dv ∧ ∀ u H', New X.K X.mg A H (.val dv) u H' → Q u H'
section
variable {X : Cx} {slot : Option Nat} {a : Addr} {cls : Value} {d : Option Addr} {oe : Obj} {pn : List (Addr × Obj)} {pos p : Pos} {e : Expr} {es : List Expr}
theorem pe_cst0 {X : Cx} {c : Const} {k : Nat} {d : D} (h : cstD c = some d) : PE X (.Constant c k pos) (fun _ H Q => ∀ v, (∀ A H', VR X.K X.mg A H' d v) → Q v H) := by
  cases c with
  | none => cases h; exact pe_non.impB fun pins s σ H Q I q => q _ fun _ _ => rfl
  | bool b => cases h; exact pe_bl.impB fun pins s σ H Q I q => q _ fun _ _ => rfl
  | int i => cases h; exact pe_int.impB fun pins s σ H Q I q => q _ fun _ _ => rfl
  | str s =>
    have h' : (if s.cps.toList.length ≤ LIM ∧ s.cps.toList.all (fun c => decide (c < 0x110000)) then some (D.str s.cps.toList) else none) = some d := h
    split at h'
    · rename_i ok
      cases h'
      refine pe_str.impB fun pins s σ H Q I q => q _ fun _ _ => ⟨?_, ok.1, fun c hc => of_decide_eq_true (List.all_eq_true.mp ok.2 c hc)⟩
      rw [TL.mk_tl]
    · cases h'
  | _ => cases h
theorem pe_haC {c : Const} {k : Nat} {dv : D} (h : cstD c = some dv) : PE (X.suite a pn) (.Constant c k pos) (tHA X slot a cls d (.cst dv)) :=
  (pe_cst0 (X := X.suite a pn) h).impB fun pins s σ H Q I ⟨A, x, dv', hs, e, q⟩ v hv => by
    cases e
    exact q v (hv A H)
theorem pe_haF {n f : Str} {i : Nat} (hN : X.N[i]? = some n) (hv : Vis X.env.scope n) (hd : (n == ("__debug__" : Str)) = false) (hcd : (n == ("__classdict__" : Str)) = false) (hz : Zc cls d oe) (hf : ∃ vs, oe.data = .fields vs) :
    PE (X.suite a ((a, oe) :: pn)) (.Attribute (.Name n p) f pos) (tHA X (some i) a cls d (.fld f)) := by
  refine ⟨fun pins s σ H Q I ⟨A, x, dv, hs, e, q⟩ => ?_⟩
  have e1 : (match x.arg with | some (g, d) => if g = f then some d else none | none => none) = some dv := e
  obtain ⟨C, hm, hc, hx⟩ := hs.xr
  cases ex : x.arg with
  | none => rw [ex] at e1; cases e1
  | some z =>
    obtain ⟨g, d'⟩ := z
    rw [ex] at e1 hx
    simp only at e1
    split at e1
    · rename_i hg
      subst hg
      cases e1
      obtain ⟨⟨T, hno⟩, dd, v, ed, eh, vr⟩ := hx
      exact (pe_xf (pn := pn) T hno hz hf (pe_var (X := X.suite a ((a, oe) :: pn)) (i := i) hN hv hd hcd)).run pins s σ H Q I ⟨_, hs.at_ i rfl, rfl, hc, dd, [(g, v)], v, ed, eh, by simp [List.lookup], q v vr⟩
    · cases e1
theorem pa_haN : PA (X.suite a pn) [] (tHAs X slot a cls d []) := ⟨fun pos pins s σ H Q I ⟨A, x, dvs, hs, e, q⟩ => by
  cases e
  exact pa_nil.run pos pins s σ H Q I (q [] rfl)⟩
theorem allOf_length {α β : Type} {f : α → Option β} : ∀ {as : List α} {l : List β}, allOf f as = some l → l.length = as.length
  | [], _, h => by cases h; rfl
  | a :: as, l, h => by
    obtain ⟨b, bs, _, e, rfl⟩ := allOf_cons h
    simp [allOf_length e]
theorem pa_haS {h : HA} {hs : List HA} (ha : PE (X.suite a pn) e (tHA X slot a cls d h)) (hr : PA (X.suite a pn) es (tHAs X slot a cls d hs)) (hst : starEach (e :: es) (X.suite a pn).env = (false, eval e (X.suite a pn).env) :: starEach es (X.suite a pn).env) :
    PA (X.suite a pn) (e :: es) (tHAs X slot a cls d (h :: hs)) := ⟨fun pos pins s σ H Q I ⟨A, x, dvs, hh, e, q⟩ => by
  obtain ⟨b, bs, e1, e2, rfl⟩ := allOf_cons e
  exact (pa_cons ha hr hst).run pos pins s σ H Q I ⟨A, x, b, hh, e1, fun u vu => ⟨A, x, bs, hh, e2, fun us vus => q (u :: us) (VRs.cons vu vus)⟩⟩⟩
theorem pe_hb1 {h : HA} (ha : PE (X.suite a pn) e (tHA X slot a cls d h)) : PE (X.suite a pn) e (tHB X slot a cls d (.one h)) :=
  ha.impB fun pins s σ H Q I ⟨A, x, dv, hs, e, q⟩ => ⟨A, x, dv, hs, e, fun u vu => q u H (.val vu)⟩
theorem pe_hbT {hs : List HA} {k : Nat} (hl : hs.length ≤ 100) (ha : PA (X.suite a pn) es (tHAs X slot a cls d hs)) : PE (X.suite a pn) (.Tuple es k pos) (tHB X slot a cls d (.tup hs)) :=
  (pe_tup ha).impB fun pins s σ H Q I ⟨A, x, dv, hh, e, q⟩ => by
    have e' : (allOf (HA.val x.arg) hs).map D.tup = some dv := e
    cases e1 : allOf (HA.val x.arg) hs with
    | none => rw [e1] at e'; cases e'
    | some ds =>
      rw [e1] at e'
      cases e'
      refine ⟨A, x, ds, hh, e1, fun us vus => ⟨?_, fun p np => q _ _ (.tup np vus)⟩⟩
      rw [← vus.length, allOf_length e1, lim_eq]
      exact Nat.le_trans hl (by decide)
/-- a clause's suite: what it returns -/
def tHd (X : Cx) (h : Hd) (a : Addr) (cls : Value) (d : Option Addr) : TS := fun D σ H => tHB X h.slot a cls d h.body σ H D.rt
theorem pss_hd {h : Hd} (he : PE (X.suite a pn) e (tHB X h.slot a cls d h.body)) : PSs (X.suite a pn) [.Return (some e) pos] (tHd X h a cls d) := pss_one (ps_ret he)
theorem pss_bad {h : Hd} {ss : List Stmt} (hb : h.body = .bad) : PSs (X.suite a pn) ss (tHd X h a cls d) := ⟨fun pins s σ H D I ⟨A, x, dv, hs, e, q⟩ => by
  rw [hb] at e
  cases e⟩
end
/-- which class is below which -/
structure SubOk (K : PySem.W.Frag) (mg : Str → Option Value) (sb : Str → Str → Option Bool) : Prop where
  ok : ∀ x y b, sb x y = some b → ∃ C, mg y = some (.ref C) ∧ ∀ B, mg x = some (.ref B) → PySem.W.exmOne K (.ref B) (.ref C) = some b
/-- the clauses of the text -/
inductive HdOk (X : Cx) : List ExceptHandler → List Hd → List Cl → Prop
  | nil : HdOk X [] [] []
  | cons {h : Hd} {n : Option Str} {b : Stmt} {bs : List Stmt} {p1 p2 : Pos} {es : List ExceptHandler} {hs : List Hd} {l : List Cl} {C : Addr} (hg : Gl X h.cls) (hdb : (h.cls == ("__debug__" : Str)) = false) (hm : X.mg h.cls = some (.ref C))
      (hn : SlotOk X h.slot n) (ht : ∀ (a : Addr) (oe : Obj) (cls : Value) (d : Option Addr) (pn : List (Addr × Obj)), Zc cls d oe → (∃ vs, oe.data = .fields vs) → PSs (X.suite a ((a, oe) :: pn)) (b :: bs) (tHd X h a cls d)) (r : HdOk X es hs l) :
      HdOk X (.ExceptHandler (some (.Name h.cls p1)) n (b :: bs) p2 :: es) (h :: hs) (⟨.ref C, h.slot, tHd X h⟩ :: l)
theorem HdOk.cl {X : Cx} {es : List ExceptHandler} {hs : List Hd} {l : List Cl} (h : HdOk X es hs l) : ClOk X es l := by
  induction h with
  | nil => exact .nil
  | cons hg hdb hm hn ht r ih => exact .cons ⟨hg, hdb, .inl hm⟩ hn ht ih
section
variable {X : Cx} {W : WX} {sb : Str → Str → Option Bool} {R : Av}
theorem HdOk.run {es : List ExceptHandler} {hs : List Hd} {l : List Cl} (k : HdOk X es hs l) (sk : SubOk X.K X.mg sb) {x : Exn} {ρ : Env} {H : Hp} {F : List Addr} {D : Ends} (h : AimS X W R H F D (hdsL sb x hs ρ)) :
    ∀ σ' cls d H' F', Rel X.K X.mg R ρ σ' H' F' → XR X.K X.mg (fun p => p ∈ F' ∨ R p) x cls d H' → Stp F H F' H' → wCl X.K W D l cls d σ' H' := by
  induction k with
  | nil => exact h
  | @cons hd n b bs p1 p2 es hs l C hg hdb hm hn ht r ih =>
    intro σ' cls d H' F' rel xr st
    unfold hdsL at h
    cases e : sb x.cls hd.cls with
    | none => rw [e] at h; exact h.elim
    | some y =>
      rw [e] at h
      obtain ⟨C', hm', hx⟩ := sk.ok _ _ _ e
      rw [hm] at hm'
      cases hm'
      obtain ⟨B, hB, ec, harg⟩ := id xr
      subst ec
      refine ⟨y, hx B hB, fun hy a na => ?_, fun hy => ?_⟩
      · subst hy
        have h : AimS X W R H F D (if hd.fits ρ then (match hd.body.val x.arg with | some d => .rt (.val d) | none => .no) else .no) := h
        split at h
        · rename_i hfit
          cases eb : hd.body.val x.arg with
          | none => rw [eb] at h; exact h.elim
          | some dv =>
            rw [eb] at h
            have key : ∀ {σ2 : L2.St} {D2 : Ends}, D2.rt = D.rt → (∀ i, hd.slot = some i → σ2[i]? = some (some (.ref a))) → tHd X hd a (.ref B) d D2 σ2 H' := fun {σ2 D2} e2 e3 => by
              refine ⟨fun p => p ∈ F' ∨ R p, x, dv, ⟨xr, e3⟩, eb, fun u H'' nw => ?_⟩
              rw [e2]
              exact (nw.pv rel st).rt h
            cases es : hd.slot with
            | none => exact key rfl (fun i z => by rw [es] at z; cases z)
            | some i =>
              refine key rfl (fun j z => ?_)
              rw [es] at z
              cases z
              have hi : i < σ'.length := by
                rw [← rel.er.length]
                unfold Hd.fits at hfit
                rw [es] at hfit
                exact of_decide_eq_true hfit
              exact List.getElem?_set_self hi
        · exact h.elim
      · subst hy
        exact ih h σ' (.ref B) d H' F' rel xr st
theorem ps_tryE {body : List Stmt} {h₀ : ExceptHandler} {es : List ExceptHandler} {hs : List Hd} {l : List Cl} {pos : Pos} {f : Env → Out} (hst : X.stack = X.env :: X.outer) (hf : X.env.frame = some X.env.locals) (hN : X.N.Nodup) (tk : Takes X W) (sk : SubOk X.K X.mg sb)
    (hb : ∀ (W : WX) (pn : List (Addr × Obj)) (xe : Value → Shared → Prop), Takes (X.tr pn xe) W → PassesOwn (model X.prog X.w) X.A X.env xe → PSs (X.tr pn xe) body (tS (X.tr pn xe) W f)) (k : HdOk X (h₀ :: es) hs l) :
    PS X (.Try body (h₀ :: es) [] [] pos) (tS X W fun ρ => match f ρ with
    | .ex x ρ => hdsL sb x hs ρ
    | .nx ρ => .nx ρ
    | .rt c => .rt c
    | .no => .no) :=
  (ps_tryCl hst hf hN tk (tb := fun W => tS X W f) hb k.cl).impB fun pins s D σ H I ⟨R, ρ, F, rel, h⟩ => by
    refine ⟨R, ρ, F, rel, ?_⟩
    dsimp only at h
    cases q : f ρ with
    | nx ρ' => rw [q] at h; exact h
    | rt c => rw [q] at h; exact h
    | no => rw [q] at h; exact h
    | ex x ρ' => rw [q] at h; exact k.run sk h
end
end Bw

set_option Elab.async false
set_option linter.all false
set_option maxRecDepth 100000
/-! Bw17: where a token is out (text.replace wants one). -/
namespace Bw
open PySem PySem.Spec PyProof.Rows L2

/-- behind it a token is out -/
def PEn (X : Cx) (e : Expr) (t : TE) : Prop := ∀ (pins : List (Addr × Obj)) (s : Shared) (σ : L2.St) (H : Hp) (Q : VK), Inv X pins σ H s → t σ H Q → wpAny (model X.prog X.w) X.A (eval e X.env) (fun v s' => EP X pins σ Q v s' ∧ 1 ≤ s'.toks) X.xe s
/-- .. where it is not true -/
def PTf (X : Cx) (e : Expr) (t : TT) : Prop := ∀ (pins : List (Addr × Obj)) (s : Shared) (σ : L2.St) (H : Hp) (Q : Bool → Hp → Prop), Inv X pins σ H s → t σ H Q → wpAny (model X.prog X.w) X.A (isTrue e X.env (eval e X.env)) (fun k s' => TP X pins σ Q k s' ∧ (k = false → 1 ≤ s'.toks)) X.xe s
theorem toks1 {α : Type} {M : Model} {A : Around} {t : Sem α} {Q : α → Shared → Prop} {E : Value → Shared → Prop} {s : Shared} (hn : 1 ≤ s.toks) (h : wpAny M A t Q E s) : wpAny M A t (fun a s' => Q a s' ∧ 1 ≤ s'.toks) E s :=
  wpAny_mono (wpAny_toks_of hn h) (fun _ _ z => ⟨z.2, z.1⟩) fun _ _ z => z.2
section
variable {X : Cx} {W : WX} {a b e : Expr} {es : List Expr} {pos p cpos apos : Pos} {ra rb : Env → Res Cell} {rest : List Stmt} {f g : Env → Out}
def litC : Const → Bool
  | .int _ => true
  | .str _ => true
  | _ => false
theorem pen_cstE {c : Const} {k : Nat} {d : D} (h : cstD c = some d) (hi : litC c = true) : PEn X (.Constant c k pos) (tE X W (fun ρ => .ok (.val d) ρ)) := by
  intro pins s σ H Q I h2
  have h3 := (pe_cstE (X := X) (W := W) (k := k) (pos := pos) h).run pins s σ H Q I h2
  cases c with
  | int i =>
    intro Γ p hΓ
    have z := h3 Γ p hΓ
    exact ⟨z, Nat.le_add_left 1 s.toks⟩
  | str i =>
    intro Γ p hΓ
    have z := h3 Γ p hΓ
    exact ⟨z, Nat.le_add_left 1 s.toks⟩
  | _ => cases hi
/-- a subscript whose index gives a token -/
theorem pen_ix {r : R2} {ta tb : TE} (hr : IxR X r) (ha : PE X a ta) (hb : PEn X b tb) (hs : PlainIx b) : PEn X (.Subscript a b pos) (tOp r ta tb) := fun pins s σ H Q I h =>
  Subscript_ (thn (ha.run pins s σ H _ I h) fun v s1 ⟨x, H1, I1, r1, q1⟩ => thn (hb pins s1 σ H1 _ I1 q1) fun u s2 ⟨⟨y, H2, I2, r2, q2⟩, hn⟩ => toks1 hn (hr a b pins s2 σ H2 x y v u Q I2 r1 r2 q2 (hs _ _)))
theorem pen_idxE (ha : PE X a (tE X W ra)) (hb : PEn X b (tE X W rb)) (hs : PlainIx b) : PEn X (.Subscript a b pos) (tE X W (fun ρ => (ra ρ).bind fun x ρ => (rb ρ).bind fun y ρ => .of ((x.frz.idx y.frz).map .val) ρ)) :=
  fun pins s σ H Q I h => pen_ix ix_seq ha hb hs pins s σ H Q I (idx_ok h)
theorem run2n (ha : PEn X a (tE X W ra)) (hb : PE X b (tE X W rb)) {g : D → D → Option Cell} {f : Value → Value → Sem Value} (ho : OpS X f g) {pins : List (Addr × Obj)} {s : Shared} {σ : L2.St} {H : Hp} {Q : VK} (I : Inv X pins σ H s)
    (h : tE X W (fun ρ => (ra ρ).bind fun x ρ => (rb ρ).bind fun y ρ => .of (g x.frz y.frz) ρ) σ H Q) :
    wpAny (model X.prog X.w) X.A (eval a X.env) (fun v s₁ => wpAny (model X.prog X.w) X.A (eval b X.env) (fun u s₂ => wpAny (model X.prog X.w) X.A (f v u) (fun c s₃ => EP X pins σ Q c s₃ ∧ 1 ≤ s₃.toks) X.xe s₂) X.xe s₁) X.xe s := by
  obtain ⟨R, ρ, F, rel, hm⟩ := h
  refine thn (ha pins s σ H (fun x H1 => ∃ d A1, VR X.K X.mg A1 H1 d x ∧ tE X W rb σ H1 fun y H2 => ∃ A2 d2 c, VR X.K X.mg A2 H2 d x ∧ VR X.K X.mg A2 H2 d2 y ∧ g d d2 = some c ∧ ∀ w H', New X.K X.mg A2 H2 c w H' → Q w H') I
    (tE.bind rel hm fun c ρ1 x H1 F1 rel1 v1 st1 hm1 => ⟨c.frz, _, v1, tE.bind rel1 hm1 fun c2 ρ2 y H2 F2 rel2 v2 st2 hm2 => ?_⟩)) fun v s1 ⟨⟨x, H1, I1, r1, d, A1, v1, h1⟩, n1⟩ => ?_
  · obtain ⟨c, e, h⟩ := Aim.of hm2
    exact ⟨_, c2.frz, c, v1.evo (st2.evo R), v2, e, fun w H' nw => h w H' (nw.pv rel2 .refl)⟩
  · refine thn (toks1 n1 (hb.run pins s1 σ H1 _ I1 h1)) fun u s2 ⟨⟨y, H2, I2, r2, A2, d2, c, v1', v2, e, q⟩, n2⟩ => ?_
    exact toks1 n2 (ho pins s2 σ H2 A2 d d2 x y v u c Q I2 r1 r2 v1' v2 e q)
/-- a comparison whose first operand gives a token, as a test -/
theorem ptf_cmpE {op : CmpOp} {g : D → D → Option Bool} (ho : CmS X op g) (ha : PEn X a (tE X W ra)) (hb : PE X b (tE X W rb)) (hm : behindInMarks op b = false) : PTf X (.Compare a [op] [b] pos) (tT X W (fun ρ => (ra ρ).bind fun x ρ => (rb ρ).bind fun y ρ => .of ((g x.frz y.frz).map fun k => .val (.bl k)) ρ)) := by
  intro pins s σ H Q I h
  refine wpAny_isTrue_Compare1 (thn (run2n ha hb ho I (cmp_tE h)) fun v s1 h1 => thn h1 fun u s2 h2 => thn h2 fun c s3 ⟨⟨x, H1, I1, r1, k, e, q⟩, n3⟩ => ?_) hm
  subst e
  cases r1
  exact thn (toks1 n3 (wpAny_truthy_bool (Q := TP X pins σ Q) ⟨H1, I1, q⟩)) fun k s z => ⟨z.1, fun _ => z.2⟩
/-- the reading of or, split -/
theorem or_tT {σ : L2.St} {H : Hp} {Q : Bool → Hp → Prop} (h : tT X W (fun ρ => (ra ρ).bind fun x ρ => match x.frz.truth with
    | some true => .ok (.val x.frz) ρ
    | some false => rb ρ
    | none => .no) σ H Q) : tOr (tT X W ra) (tT X W rb) σ H Q := by
  obtain ⟨R, ρ, F, rel, hm⟩ := h
  refine ⟨R, ρ, F, rel, (Aim.fst hm).imp fun c ρ1 h => ?_⟩
  cases q : c.frz.truth with
  | none => rw [q] at h; exact h.elim
  | some k =>
    rw [q] at h
    refine ⟨k, rfl, fun H1 pb => ?_⟩
    cases k with
    | false =>
      rw [if_neg Bool.false_ne_true]
      obtain ⟨F1, rel1, st⟩ := pb
      exact ⟨R, ρ1, F1, rel1, (Aim.stp st h).imp fun c2 ρ2 ⟨k2, e2, h2⟩ => ⟨k2, e2, fun H2 pb2 => h2 H2 (pb2.stp st)⟩⟩
    | true =>
      rw [if_pos rfl]
      obtain ⟨k2, e2, h2⟩ := h
      have e3 : c.frz.truth = some k2 := e2
      rw [q] at e3
      cases e3
      exact h2 H1 pb
theorem ptf_orE (ha : PT X a (tT X W ra)) (hb : PTf X b (tT X W rb)) : PTf X (.BoolOp .Or [a, b] pos) (tT X W (fun ρ => (ra ρ).bind fun x ρ => match x.frz.truth with
    | some true => .ok (.val x.frz) ρ
    | some false => rb ρ
    | none => .no)) := by
  intro pins s σ H Q I h
  refine isTrue_or (thn (ha.run pins s σ H _ I (or_tT h)) fun c s1 ⟨H1, I1, q1⟩ => ?_)
  cases c with
  | true => exact ⟨⟨H1, I1, q1⟩, fun z => (nomatch z)⟩
  | false =>
    refine isTrue_or (thn (hb pins s1 σ H1 Q I1 q1) fun c s2 z => ?_)
    cases c with
    | true => exact z
    | false => exact isTrue_or_nil z
/-! ### statements -/
/-- a name is set, behind it a token is out -/
theorem pss_asgN {i : Nat} {x : Str} {pos' : Pos} {k : Bool} (hN : X.N.Nodup) (hi : X.N[i]? = some x) (hx : X.env.scope.names.lookup x = some .local) (he : PEn X e (tE X W ra)) (hs : swapsWith e (some (.Name x pos')) pos.line X.env = pure false)
    (hr : PSsT X rest (tS X W g)) : PSs X (.Assign [.Name x pos'] e pos :: rest) (tS X W fun ρ => ((ra ρ).out fun c ρ => .nx (ρ.set i (some (if k then .val c.frz else c)))).andThen g) := by
  refine ⟨fun pins s σ H D I h => ?_⟩
  have h2 : tAsg (tE X W ra) (gName i) { D with nx := (tS X W g) D } σ H := tAsg_ok (s := s) (pins := pins) k (by
    obtain ⟨R, ρ, F, rel, h⟩ := h
    refine ⟨R, ρ, F, rel, ?_⟩
    dsimp only at h ⊢
    cases q : ra ρ with
    | no => rw [q] at h; exact h.elim
    | ex x ρ1 => rw [q] at h; exact h
    | ok c ρ1 => rw [q] at h; exact fun σ' H' F' r s => ⟨R, _, F', r, AimS.stp s h⟩)
  refine wpAny_execs_cons (wpAny_Assign_Name (thn (he pins s σ H _ I h2) fun v s1 ⟨⟨y, H1, I1, r1, q1⟩, n1⟩ => ?_) hs)
  exact wpAny_mono (toks1 n1 (store_ok (Q := fun _ s2 => Inv X pins (σ.set i (some y)) H1 s2) I1 hN hi (.inl hx) r1 (fun s2 I2 => I2) (.inr hx))) (fun _ s2 z => hr pins s2 _ H1 D z.2 z.1 q1) fun _ _ z => z
/-- it never goes on behind it -/
def Stops (f : Env → Out) : Prop := ∀ ρ ρ', f ρ ≠ .nx ρ'
theorem pss_ifN {c : Expr} {a : List Stmt} {rc : Env → Res Cell} (hc : PTf X c (tT X W rc)) (ha : PSs X a (tS X W f)) (hf : Stops f) (hr : PSsT X rest (tS X W g)) : PSs X (.If c a [] pos :: rest) (tS X W fun ρ => ((rc ρ).out fun k ρ => match k.frz.truth with
    | some true => f ρ
    | some false => .nx ρ
    | none => .no).andThen g) := by
  refine ⟨fun pins s σ H D I h => ?_⟩
  have h2 : tT X W rc σ H fun k H1 => if k = true then tS X W f { D with nx := fun _ _ => False } σ H1 else tS X W g D σ H1 := by
    obtain ⟨R, ρ, F, rel, h⟩ := h
    have h : AimS X W R H F D ((rc ρ).out fun k ρ => (match k.frz.truth with
      | some true => f ρ
      | some false => .nx ρ
      | none => .no).andThen g) := by
      dsimp only at h
      cases q : rc ρ with
      | no => rw [q] at h; exact h.elim
      | ex x ρ1 => rw [q] at h; exact h
      | ok c ρ1 => rw [q] at h; exact h
    refine tT.out rel h (fun c ρ1 q => by rw [q]; rfl) fun c ρ1 k H1 F1 q rel1 st1 h1 => ?_
    rw [q] at h1
    cases k with
    | true =>
      rw [if_pos rfl]
      refine ⟨R, ρ1, F1, rel1, ?_⟩
      have h1 : AimS X W R H1 F1 D ((f ρ1).andThen g) := h1
      cases q : f ρ1 with
      | nx ρ2 => exact absurd q (hf ρ1 ρ2)
      | rt c => rw [q] at h1; exact h1
      | ex x ρ4 => rw [q] at h1; exact h1
      | no => rw [q] at h1; exact h1
    | false =>
      rw [if_neg Bool.false_ne_true]
      exact ⟨R, ρ1, F1, rel1, h1⟩
  refine wpAny_execs_cons (wpAny_If (thn (hc pins s σ H _ I h2) fun k s1 ⟨⟨H1, I1, q1⟩, n1⟩ => ?_))
  cases k with
  | true =>
    rw [if_pos rfl] at q1
    refine thn (ha.run pins s1 σ H1 _ I1 q1) fun fl s2 z => ?_
    cases fl with
    | next => obtain ⟨_, _, _, z⟩ := z; exact z.elim
    | ret u => exact z
    | brk => exact z
    | cont => exact z
  | false =>
    rw [if_neg Bool.false_ne_true] at q1
    exact wpAny_execs_nil (hr pins s1 σ H1 D (n1 rfl) I1 q1)
theorem psst_consE {st : Stmt} (h1 : PST X st (tS X W f)) (h2 : PSsT X rest (tS X W g)) : PSsT X (st :: rest) (tS X W fun ρ => (f ρ).andThen g) := fun pins s σ H D n I ⟨R, ρ, F, rel, h⟩ =>
  psst_cons h1 h2 pins s σ H D n I (by
    refine ⟨R, ρ, F, rel, ?_⟩
    have h : AimS X W R H F D ((f ρ).andThen g) := h
    cases q : f ρ with
    | nx ρ' => rw [q] at h; exact fun σ' H' F' r s => ⟨R, ρ', F', r, AimS.stp s h⟩
    | rt c => rw [q] at h; exact h
    | ex x ρ' => rw [q] at h; exact h
    | no => rw [q] at h; exact h)
theorem pst_retE (he : PET X e (tE X W ra)) : PST X (.Return (some e) pos) (tS X W fun ρ => (ra ρ).out fun c _ => .rt c) := fun pins s σ H D n I ⟨R, ρ, F, rel, h⟩ =>
  CwR.pst_ret he pins s σ H D n I (tE.out rel h fun c ρ1 x H1 pv q => pv.rt q)
/-! ### expressions -/
theorem _root_.L2.PET.impB {t t' : TE} (h : PET X e t) (hi : ∀ pins s σ H Q, Inv X pins σ H s → t' σ H Q → t σ H Q) : PET X e t' := fun pins s σ H Q n I q => h pins s σ H Q n I (hi pins s σ H Q I q)
theorem replL_mem {y z : List Nat} : ∀ (l : List Nat) (n : Nat) (c : Nat), c ∈ StrLaws.replS y z n l → c ∈ l ∨ c ∈ z
  | [], n, c, h => by
    unfold StrLaws.replS at h
    cases h
  | d :: r, 0, c, h => by
    unfold StrLaws.replS at h
    split at h
    · rcases List.mem_append.mp h with h | h
      · exact .inr h
      · exact (replL_mem r _ c h).imp (List.mem_cons_of_mem _) id
    · rcases List.mem_cons.mp h with h | h
      · exact .inl (h ▸ List.mem_cons_self)
      · exact (replL_mem r _ c h).imp (List.mem_cons_of_mem _) id
  | d :: r, n + 1, c, h => by
    unfold StrLaws.replS at h
    exact (replL_mem r _ c h).imp (List.mem_cons_of_mem _) id
theorem pet_replE {y z : Str} {j k : Nat} {c0 c1 : Pos} (ho : PET X a (tE X W ra)) (hyz : (y == z) = false) (hz : ∀ c ∈ z.cps.toList, c < 0x110000) (hst : starEach [.Constant (.str y) j c0, .Constant (.str z) k c1] X.env = [(false, eval (.Constant (.str y) j c0) X.env), (false, eval (.Constant (.str z) k c1) X.env)])
    (hbase : attributeBase a "replace" X.env (eval a X.env) = eval a X.env) (hline : (apos.endLine == pos.line) = true) :
    PET X (.Call (.Attribute a "replace" apos) [.Constant (.str y) j c0, .Constant (.str z) k c1] [] pos) (tE X W (fun ρ => (ra ρ).bind fun x ρ => match x.frz with
      | .str a => .of (Mt.replace.run (.str a) [.str y.cps.toList, .str z.cps.toList]) ρ
      | _ => .no)) :=
  (CwR.pet_replT ho hyz hst hbase hline).impB fun pins s σ H Q I ⟨R, ρ, F, rel, hm⟩ => tE.bind rel hm fun c ρ1 x H1 F1 rel1 v st h1 => by
    cases q : c.frz with
    | str s =>
      rw [q] at h1 v
      obtain ⟨rfl, ok⟩ := v
      have h1 : AimV X W R σ H1 F1 Q (.of (if 1 ≤ y.cps.toList.length ∧ s.length + (s.length + 1) * z.cps.toList.length ≤ LIM then some (.val (.str (PySem.StrLaws.replL y.cps.toList z.cps.toList s))) else none) ρ1) := h1
      split at h1
      · rename_i hl
        have lz : z.length = z.cps.toList.length := by simp [Str.length]
        have ly : y.length = y.cps.toList.length := by simp [Str.length]
        refine ⟨_, rfl, by rw [str_len, lz]; exact hl.2, AimV.new (c := .val (.str (PySem.StrLaws.replL y.cps.toList z.cps.toList s))) rel1 h1 (.val ⟨?_, ?_, fun c hc => ?_⟩)⟩
        · have e := StrLaws.replace_list (x := ⟨s.toArray⟩) (y := y) (z := z) (by rw [ly]; exact hl.1)
          have e2 : (Txt.replace ⟨s.toArray⟩ y z) = ⟨(Txt.replace ⟨s.toArray⟩ y z).cps.toList.toArray⟩ := by simp
          rw [e2, e]
        · have e := StrLaws.replace_list (x := ⟨s.toArray⟩) (y := y) (z := z) (by rw [ly]; exact hl.1)
          have e3 := TK.replace_len ⟨s.toArray⟩ y z
          have e4 : (Txt.replace ⟨s.toArray⟩ y z).length = (Txt.replace ⟨s.toArray⟩ y z).cps.toList.length := by simp [Str.length]
          have e5 : (⟨s.toArray⟩ : Str).length = s.length := by simp [Str.length]
          rw [e4, e, e5, lz] at e3
          exact Nat.le_trans e3 hl.2
        · rcases replL_mem _ _ _ hc with h | h
          · exact ok.2 c h
          · exact hz c h
      · exact h1.elim
    | _ => rw [q] at h1; exact h1.elim
/-- e.split() -/
theorem pet_mt0 {to : TE} (ho : PET X a to) (hbase : attributeBase a "split" X.env (eval a X.env) = eval a X.env) (hline : (apos.endLine == cpos.line) = true) :
    PET X (.Call (.Attribute a "split" apos) [] [] cpos) (tBM0 X.K "str" (rMt X .words) to) := fun pins s σ H Q n I h =>
  wpAny_Call_method0_late hbase hline (thn (ho pins s σ H _ n I h) fun v s1 ⟨x, H1, I1, r1, ty, q1⟩ =>
    ⟨"str", _, PySem.F.plainAttrs_str, PySem.F.slot_str_split, PySem.F.type_str_split, (tyV_is I1 r1 ty).1, (tyV_is I1 r1 ty).2, Calls.callWith_builtin rfl (PySem.evalArgs_none (mt_ok (X := X) .words rfl pins s1 σ H1 x [] v [] Q I1 r1 .nil q1))⟩)
theorem pet_wordsE (ho : PET X a (tE X W ra)) (hbase : attributeBase a "split" X.env (eval a X.env) = eval a X.env) (hline : (apos.endLine == cpos.line) = true) :
    PET X (.Call (.Attribute a "split" apos) [] [] cpos) (tE X W (fun ρ => (ra ρ).bind fun x ρ => match x.frz with
      | .str a => .of (Mt.words.run (.str a) []) ρ
      | _ => .no)) :=
  (pet_mt0 ho hbase hline).impB fun pins s σ H Q I ⟨R, ρ, F, rel, hm⟩ => tE.bind rel hm fun c ρ1 x H1 F1 rel1 v st h1 => by
    cases q : c.frz with
    | str a =>
      rw [q] at h1 v
      obtain ⟨rfl, ok⟩ := v
      obtain ⟨c2, e2, h⟩ := Aim.of (show Aim X W R σ H1 F1 _ (Res.of (Mt.words.run (.str a) []) ρ1) from h1)
      exact ⟨rfl, _, .str a, [], c2, ⟨rfl, ok⟩, .nil, e2, fun w H' nw => h w H' (nw.pv rel1 .refl)⟩
    | _ => rw [q] at h1; exact h1.elim
/-- tuple(e) -/
theorem pet_tupleE (gd : Gd X) (hg : Gl X "tuple") (hm : X.mg "tuple" = none) (ha : PET X a (tE X W ra)) (hs : starEach [a] X.env = (false, eval a X.env) :: starEach [] X.env) :
    PET X (.Call (.Name "tuple" p) [a] [] pos) (tE X W (fun ρ => (ra ρ).bind fun c ρ => .of (Bi.tuple.run [c.frz]) ρ)) := by
  intro pins s σ H Q n I ⟨R, ρ, F, rel, h⟩
  refine wpAny_Call_Name_kw (ld_blt I hg hm Bi.tuple.boot ?_ Bi.tuple.nn Bi.tuple.nd)
  refine PyProof.Rows.callWith_type1 ?_ hs rfl
  rw [hs]
  show wpAny _ _ (spliced ((false, eval a X.env) :: backTo pos (starEach [] X.env))) _ _ s
  refine Calls.spliced_cons (thn (ha pins s σ H (fun x H1 => rBi X .tuple [x] H1 Q) n I (tE.bind rel h fun c ρ1 x H1 F1 rel1 v st h1 => ?_)) fun v s1 ⟨x, H1, I1, r1, q1⟩ => ?_)
  · obtain ⟨c', e1, h⟩ := Aim.of h1
    exact ⟨_, [c.frz], c', VRs.ars (VRs.cons v VRs.nil), e1, fun w H' nw => h w H' (nw.pv rel1 .refl)⟩
  · exact Calls.spliced_nil (bi_ok gd .tuple pins s1 σ H1 [x] [v] Q I1 (.cons r1 .nil) q1)
end
end Bw

set_option Elab.async false
set_option linter.all false
set_option maxRecDepth 100000
/-! Bw18: a chain of two comparisons; looks at the written text. -/
namespace Bw
open PySem PySem.Spec PyProof.Rows L2

/-! ### a < b < c -/
def rI (o : Cm) : R2 := fun x y H Q => ∃ i j k, x = .int i ∧ y = .int j ∧ o.runI (.int i) (.int j) = some k ∧ Q (.bl k) H
theorem runI_run {o : Cm} {x y : D} {k : Bool} (h : o.runI x y = some k) : (∃ i j, x = .int i ∧ y = .int j) ∧ o.run x y = some k := by
  cases o <;> cases x <;> cases y <;> first | (cases h; exact ⟨⟨_, _, rfl, rfl⟩, rfl⟩) | cases h
theorem opR_I {X : Cx} (g : Gd X) (o : Cm) : OpR X (compareOp o.py) (rI o) := by
  intro pins s σ H x y v u Q I rx ry h
  obtain ⟨i, j, k, rfl, rfl, e, q⟩ := h
  refine cms_op g o pins s σ H (fun _ => False) (.int i) (.int j) (.int i) (.int j) v u (.val (.bl k)) Q I rx ry rfl rfl (show Option.map (fun k => Cell.val (D.bl k)) (o.run (.int i) (.int j)) = _ by rw [(runI_run e).2]; rfl) fun w H' nw => ?_
  cases nw with
  | val r =>
    obtain rfl : w = .bl k := r
    exact q
section
variable {X : Cx} {W : WX} {a b c : Expr} {pos : Pos} {ra rb rc : Env → Res Cell}
theorem chain_ok {o p : Cm} {σ : L2.St} {H : Hp} {Q : VK} (h : tE X W (fun ρ => (ra ρ).bind fun x ρ => (rb ρ).bind fun y ρ => match o.runI x.frz y.frz with
    | some true => (rc ρ).bind fun z ρ => .of ((p.runI y.frz z.frz).map fun k => .val (.bl k)) ρ
    | some false => .ok (.val (.bl false)) ρ
    | none => .no) σ H Q) : tChain (rI o) (rI p) (tE X W ra) (tE X W rb) (tE X W rc) σ H Q := by
  obtain ⟨R, ρ, F, rel, hm⟩ := h
  refine tE.bind rel hm fun c1 ρ1 x H1 F1 rel1 v1 st1 h1 => tE.bind rel1 h1 fun c2 ρ2 y H2 F2 rel2 v2 st2 h2 => ?_
  have v1' := v1.evo (st2.evo R)
  cases e : o.runI c1.frz c2.frz with
  | none => rw [e] at h2; exact h2.elim
  | some k =>
    rw [e] at h2
    obtain ⟨⟨i, j, e1, e2⟩, _⟩ := runI_run e
    rw [e1] at v1'
    rw [e2] at v2
    obtain rfl : x = .int i := v1'
    obtain rfl : y = .int j := v2
    rw [e1, e2] at e
    refine ⟨i, j, k, rfl, rfl, e, k, rfl, ?_⟩
    cases k with
    | false =>
      rw [if_neg Bool.false_ne_true]
      exact AimV.new (ρ := ρ2) (c := .val (.bl false)) rel2 h2 (.val (show VR X.K X.mg (fun p => p ∈ F2 ∨ R p) H2 (.bl false) (.bl false) from rfl))
    | true =>
      rw [if_pos rfl]
      refine tE.bind rel2 h2 fun c3 ρ3 z H3 F3 rel3 v3 st3 h3 => ?_
      cases e3 : p.runI c2.frz c3.frz with
      | none => rw [e3] at h3; exact h3.elim
      | some k2 =>
        obtain ⟨⟨j', l, e4, e5⟩, _⟩ := runI_run e3
        rw [e2] at e4
        cases e4
        rw [e3] at h3
        rw [e5] at v3
        obtain rfl : z = .int l := v3
        rw [e2, e5] at e3
        exact ⟨j, l, k2, rfl, rfl, e3, AimV.new (ρ := ρ3) (c := .val (.bl k2)) rel3 h3 (.val (show VR X.K X.mg (fun p => p ∈ F3 ∨ R p) H3 (.bl k2) (.bl k2) from rfl))⟩
theorem pe_cmp2E (g : Gd X) (o p : Cm) (ha : PE X a (tE X W ra)) (hb : PE X b (tE X W rb)) (hc : PE X c (tE X W rc)) (hm : lastMarks [o.py, p.py] [b, c] = false) : PE X (.Compare a [o.py, p.py] [b, c] pos) (tE X W (fun ρ => (ra ρ).bind fun x ρ => (rb ρ).bind fun y ρ => match o.runI x.frz y.frz with
    | some true => (rc ρ).bind fun z ρ => .of ((p.runI y.frz z.frz).map fun k => .val (.bl k)) ρ
    | some false => .ok (.val (.bl false)) ρ
    | none => .no)) := (pe_chain (opR_I g o) (opR_I g p) ha hb hc hm).impB fun pins s σ H Q I h => chain_ok h
theorem pt_cmp2E (g : Gd X) (o p : Cm) (ha : PE X a (tE X W ra)) (hb : PE X b (tE X W rb)) (hc : PE X c (tE X W rc)) (hm : lastMarks [o.py, p.py] [b, c] = false) : PT X (.Compare a [o.py, p.py] [b, c] pos) (tT X W (fun ρ => (ra ρ).bind fun x ρ => (rb ρ).bind fun y ρ => match o.runI x.frz y.frz with
    | some true => (rc ρ).bind fun z ρ => .of ((p.runI y.frz z.frz).map fun k => .val (.bl k)) ρ
    | some false => .ok (.val (.bl false)) ρ
    | none => .no)) := (pt_chain (opR_I g o) (opR_I g p) ha hb hc hm).impB fun pins s σ H Q I h => chain_ok (tT_of_bl h (by
  intro ρ d ρ' e
  cases e1 : ra ρ with
  | no => rw [e1] at e; cases e
  | ex x ρ1 => rw [e1] at e; cases e
  | ok x ρ1 =>
    rw [e1] at e
    change (rb ρ1).bind _ = _ at e
    cases e2 : rb ρ1 with
    | no => rw [e2] at e; cases e
    | ex x ρ1 => rw [e2] at e; cases e
    | ok y ρ2 =>
      rw [e2] at e
      simp only [Res.bind] at e
      cases e3 : o.runI x.frz y.frz with
      | none => rw [e3] at e; cases e
      | some k =>
        rw [e3] at e
        cases k with
        | false => cases e; exact ⟨_, rfl⟩
        | true =>
          simp only at e
          cases e4 : rc ρ2 with
          | no => rw [e4] at e; cases e
          | ex x ρ1 => rw [e4] at e; cases e
          | ok z ρ3 =>
            rw [e4] at e
            simp only at e
            cases e5 : p.runI y.frz z.frz with
            | none => rw [e5] at e; cases e
            | some k => rw [e5] at e; cases e; exact ⟨_, rfl⟩))
end

/-! ### looks at the text -/
def noStar : Expr → Bool
  | .Starred .. => false
  | _ => true
theorem star_ok {e : Expr} (h : noStar e = true) (es : List Expr) (env : PySem.Env) : starEach (e :: es) env = (false, eval e env) :: starEach es env := by
  cases e <;> first | rfl | cases h
theorem plain_ok : ∀ {es : List Expr}, es.all noStar = true → ∀ (pos : Pos) (env : PySem.Env), (backTo pos (starEach es env)).any (·.1) = false
  | [], _, _, _ => rfl
  | e :: es, h, pos, env => by
    rw [List.all_cons, Bool.and_eq_true] at h
    rw [star_ok h.1]
    show (false || (backTo pos (starEach es env)).any (·.1)) = false
    rw [plain_ok h.2]
    rfl
theorem few_ok {es : List Expr} (h : es.all noStar = true) (hl : decide (es.length < 29) = true) (pos : Pos) (env : PySem.Env) :
    ((backTo pos (starEach es env)).all (fun x => !x.1) && (backToKw pos (keywordEach [] env)).all (fun x => x.1.isSome) && decide (es.length + ([] : List Keyword).length + (if ([] : List Keyword).isEmpty then 0 else 1) < 30)) = true := by
  have h1 : (backTo pos (starEach es env)).all (fun x => !x.1) = true := by
    have q := plain_ok h pos env
    rw [List.any_eq_false] at q
    rw [List.all_eq_true]
    intro x hx
    simpa using q x hx
  have h2 : (backToKw pos (keywordEach [] env)).all (fun x => x.1.isSome) = true := rfl
  have hl' := of_decide_eq_true hl
  rw [h1, h2]
  simp
  omega
def noSup : Expr → Bool
  | .Call _ [] [] _ => false
  | _ => true
theorem base_ok {a : Expr} (h : noSup a = true) (m : Str) (env : PySem.Env) (w : Sem Value) : attributeBase a m env w = w := by
  unfold attributeBase
  split
  · cases h
  · rfl
/-- its truth is asked of its value -/
def plainT : Expr → Bool
  | .Name .. => true
  | .Call .. => true
  | .Subscript .. => true
  | .ListComp .. => true
  | .BinOp .. => true
  | _ => false
theorem plainT_ok {e : Expr} (h : plainT e = true) (env : PySem.Env) (whole : Sem Value) : isTrue e env whole = (do let v ← whole; standAt e.pos; holding [v] (truthy v)) := by
  cases e <;> first | rfl | cases h
def plainI : Expr → Bool
  | .Name .. => true
  | .Call .. => true
  | .Subscript .. => true
  | .BinOp .. => true
  | .UnaryOp .. => true
  | .Constant .. => true
  | .IfExp .. => true
  | .Compare .. => true
  | .BoolOp .. => true
  | _ => false
theorem plainI_ok {e : Expr} (h : plainI e = true) : PlainIx e := by
  intro o i
  cases e <;> first | rfl | cases h
def noSet : Expr → Bool
  | .Set .. => false
  | _ => true
theorem noSet_ok {e : Expr} (h : noSet e = true) (env : PySem.Env) (x : Value) : foldedSetIterable e env x = pure x := by
  cases e <;> first | rfl | cases h
def noComp : Expr → Bool
  | .ListComp .. => false
  | .SetComp .. => false
  | .DictComp .. => false
  | _ => true
theorem noComp_ok {e : Expr} (h : noComp e = true) (t : Option Expr) (l : Nat) (env : PySem.Env) : swapsWith e t l env = pure false := by
  unfold swapsWith
  cases e <;> first | rfl | cases h
def noTup : Expr → Bool
  | .Tuple .. => false
  | _ => true
def isCall : Expr → Bool
  | .Subscript .. => true
  | _ => false
theorem call_eval {a : Expr} (h : isCall a = true) (es : List Expr) (pos : Pos) (env : PySem.Env) : eval (.Call a es [] pos) env = (do callWith pos (← eval a env) [] (backTo pos (starEach es env)) (backToKw pos (keywordEach [] env))) := by
  cases a <;> first | rfl | cases h
end Bw

set_option Elab.async false
set_option linter.all false
set_option maxRecDepth 100000
/-! Bw19: the small language held against the written text: expressions. -/
namespace Bw
open PySem PySem.Spec PyProof.Rows L2

mutual
def D.same : D → D → Bool
  | .non, b => match b with | .non => true | _ => false
  | .bl x, b => match b with | .bl y => x == y | _ => false
  | .int x, b => match b with | .int y => decide (x = y) | _ => false
  | .str x, b => match b with | .str y => decide (x = y) | _ => false
  | .tup x, b => match b with | .tup y => D.sames x y | _ => false
  | .lst x, b => match b with | .lst y => D.sames x y | _ => false
  | .scr x, b => match b with | .scr y => decide (x = y) | _ => false
  | .fn x, b => match b with | .fn y => decide (x = y) | _ => false
  | .ty x, b => match b with | .ty y => decide (x = y) | _ => false
def D.sames : List D → List D → Bool
  | [], b => match b with | [] => true | _ => false
  | x :: xs, b => match b with | y :: ys => x.same y && D.sames xs ys | _ => false
end
mutual
theorem D.same_ok : ∀ {a b : D}, a.same b = true → a = b
  | .non, b, h => by cases b <;> first | rfl | cases h
  | .bl x, b, h => by cases b <;> first | (simp only [D.same, beq_iff_eq] at h; rw [h]) | cases h
  | .int x, b, h => by cases b <;> first | (simp only [D.same, decide_eq_true_eq] at h; rw [h]) | cases h
  | .str x, b, h => by cases b <;> first | (simp only [D.same, decide_eq_true_eq] at h; rw [h]) | cases h
  | .tup x, b, h => by cases b <;> first | (simp only [D.same] at h; rw [D.sames_ok h]) | cases h
  | .lst x, b, h => by cases b <;> first | (simp only [D.same] at h; rw [D.sames_ok h]) | cases h
  | .scr x, b, h => by cases b <;> first | (simp only [D.same, decide_eq_true_eq] at h; rw [h]) | cases h
  | .fn x, b, h => by cases b <;> first | (simp only [D.same, decide_eq_true_eq] at h; rw [h]) | cases h
  | .ty x, b, h => by cases b <;> first | (simp only [D.same, decide_eq_true_eq] at h; rw [h]) | cases h
theorem D.sames_ok : ∀ {a b : List D}, D.sames a b = true → a = b
  | [], b, h => by cases b <;> first | rfl | cases h
  | x :: xs, b, h => by
    cases b with
    | nil => cases h
    | cons y ys =>
      simp only [D.sames, Bool.and_eq_true] at h
      rw [D.same_ok h.1, D.sames_ok h.2]
end
/-- the names of a block: its slots, its scope -/
structure Cs where
  N : List Str
  sc : Scope
  fn : Str → Bool
/-- the names of the module that are used -/
structure Tb where
  fns : List (Str × Nat)
  glb : List (Str × D)
  exf : List (Str × Str)
  blt : List Str
  cls : List Str
def cstB : Const → D → Bool
  | .none, .non => true
  | .bool a, .bl b => a == b
  | .int a, .int b => decide (a = b)
  | .str s, .str l => decide (s.cps.toList = l) && decide (l.length ≤ LIM) && l.all (fun c => decide (c < 0x110000))
  | _, _ => false
theorem cstB_ok {c : Const} {d : D} (h : cstB c d = true) : cstD c = some d := by
  unfold cstB at h
  split at h
  · rfl
  · simp only [beq_iff_eq] at h; rw [h]; rfl
  · simp only [decide_eq_true_eq] at h; rw [h]; rfl
  · simp only [Bool.and_eq_true, decide_eq_true_eq] at h
    obtain ⟨⟨h1, h2⟩, h3⟩ := h
    subst h1
    show (if _ then _ else _) = _
    rw [if_pos ⟨h2, h3⟩]
  · cases h
def visB (sc : Scope) (x : Str) : Bool := match sc.names.lookup x with
  | some .local => true
  | some .cell => true
  | some .free => true
  | _ => false
theorem visB_ok {sc : Scope} {x : Str} (h : visB sc x = true) : Vis sc x := by
  unfold visB at h
  unfold Vis
  split at h <;> simp_all
def ndb (n : Str) : Bool := !(n == ("__debug__" : Str)) && !(n == ("__classdict__" : Str))
def nmB (c : Cs) (i : Nat) (n : Str) : Bool := decide (c.N[i]? = some n) && (visB c.sc n && ndb n)
def glB (c : Cs) (n : Str) : Bool := (match c.sc.names.lookup n with
  | some .globalImplicit => true
  | _ => false) && ndb n
def btB (T : Tb) (c : Cs) (n : Str) : Bool := glB c n && decide (n ∈ T.blt)
def opB : Op → Operator → Bool
  | .add, .Add => true
  | .sub, .Sub => true
  | .mul, .Mult => true
  | .fdiv, .FloorDiv => true
  | .mod, .Mod => true
  | .pow, .Pow => true
  | .shl, .LShift => true
  | _, _ => false
def cmB : Cm → CmpOp → Bool
  | .eq, .Eq => true
  | .ne, .NotEq => true
  | .lt, .Lt => true
  | .le, .LtE => true
  | .gt, .Gt => true
  | .ge, .GtE => true
  | .isin, .In => true
  | .notin, .NotIn => true
  | .is, .Is => true
  | .isnot, .IsNot => true
  | _, _ => false
theorem opB_ok {o : Op} {p : Operator} (h : opB o p = true) : p = o.py := by cases o <;> cases p <;> first | rfl | cases h
theorem cmB_ok {o : Cm} {p : CmpOp} (h : cmB o p = true) : p = o.py := by cases o <;> cases p <;> first | rfl | cases h
/-- such an expression may be a test -/
def tstE : E → Bool
  | .var _ => true
  | .glb _ _ => true
  | .bin _ _ _ => true
  | .not a => tstE a
  | .and a b => tstE a && tstE b
  | .or a b => tstE a && tstE b
  | .cmp _ _ _ => true
  | .cmp2 _ _ _ _ _ => true
  | .idx _ _ => true
  | .slc _ _ _ => true
  | .call _ _ => true
  | .callv _ _ => true
  | .bi _ _ => true
  | .biP _ _ => true
  | .mt _ _ _ => true
  | .mtP _ _ _ => true
  | .isi _ _ => true
  | .comp _ _ _ => true
  | .compC _ _ _ _ => true
  | _ => false
def tgB (c : Cs) (i : Nat) (n : Str) : Bool := decide (c.N[i]? = some n) && (match c.sc.names.lookup n with
  | some .local => true
  | some .cell => c.fn n
  | _ => false)
def mTgs (c : Cs) : List Nat → List Expr → Bool
  | [], [] => true
  | i :: is, .Name n _ :: es => tgB c i n && mTgs c is es
  | _, _ => false
def mTg (c : Cs) : Tg → Expr → Bool
  | .nm i, .Name n _ => tgB c i n
  | .tp is, .Tuple es _ _ => mTgs c is es
  | _, _ => false
def Cs.blk (c : Cs) (scope : Scope) : Cs := ⟨c.N, relS scope c.sc, fun x => scope.names.lookup x == some .cell⟩
def ownS (c : Cs) (t : Tg) : List (Str × Nat) := t.ixs.map fun i => ((c.N[i]?).getD "", i)
def blkB (N : List Str) (sc scope : Scope) (own : List (Str × Nat)) : Bool := L2.blkC N sc scope own
mutual
def mE (T : Tb) : E → Cs → Expr → Bool
  | .cst d, c, x => match x with
    | .Constant k _ _ => cstB k d
    | _ => false
  | .var i, c, x => match x with
    | .Name n _ => nmB c i n
    | _ => false
  | .take i, c, x => match x with
    | .Name n _ => nmB c i n
    | _ => false
  | .fz i, c, x => match x with
    | .Name n _ => nmB c i n
    | _ => false
  | .glb g d, c, x => match x with
    | .Name n _ => decide (g = n) && (glB c n && (match T.glb.lookup n with
      | some d' => d'.same d
      | none => false))
    | _ => false
  | .tup es, c, x => match x with
    | .Tuple xs _ _ => mEs T es c xs
    | _ => false
  | .lst es, c, x => match x with
    | .List xs _ => mEs T es c xs
    | _ => false
  | .bin o a b, c, x => match x with
    | .BinOp x op y _ => opB o op && (mE T a c x && mE T b c y)
    | _ => false
  | .neg a, c, x => match x with
    | .UnaryOp .USub x _ => mE T a c x
    | _ => false
  | .not a, c, x => match x with
    | .UnaryOp .Not x _ => mE T a c x
    | _ => false
  | .and a b, c, x => match x with
    | .BoolOp .And [x, y] _ => mE T a c x && mE T b c y
    | .BoolOp .And (x :: y :: z :: r) p => mE T a c x && mE T b c (.BoolOp .And (y :: z :: r) p)
    | _ => false
  | .or a b, c, x => match x with
    | .BoolOp .Or [x, y] _ => mE T a c x && mE T b c y
    | .BoolOp .Or (x :: y :: z :: r) p => mE T a c x && mE T b c (.BoolOp .Or (y :: z :: r) p)
    | _ => false
  | .ite t a b, c, x => match x with
    | .IfExp z x y _ => (tstE t && mE T t c z) && (mE T a c x && mE T b c y)
    | _ => false
  | .cmp o a b, c, x => match x with
    | .Compare x [op] [y] _ => (cmB o op && !behindInMarks op y) && (mE T a c x && mE T b c y)
    | _ => false
  | .cmp2 o p a b d, c, x => match x with
    | .Compare x [op, op2] [y, z] _ => ((cmB o op && cmB p op2) && !lastMarks [op, op2] [y, z]) && (mE T a c x && (mE T b c y && mE T d c z))
    | _ => false
  | .idx a i, c, x => match x with
    | .Subscript x y _ => plainI y && (mE T a c x && mE T i c y)
    | _ => false
  | .slc a lo hi, c, x => match x with
    | .Subscript x (.Slice l h none _) _ => mE T a c x && (mEo T lo c l && mEo T hi c h)
    | _ => false
  | .call f es, c, x => match x with
    | .Call (.Name n _) (y :: ys) [] _ => (decide (f = n) && (glB c n && (T.fns.lookup n).isSome)) && mEs T es c (y :: ys)
    | _ => false
  | .callv f es, c, x => match x with
    | .Call z (y :: ys) [] _ => isCall z && (mE T f c z && mEs T es c (y :: ys))
    | _ => false
  | .bi b es, c, x => match x with
    | .Call (.Name n _) (y :: ys) [] _ => (decide (b.nm = n) && btB T c n) && mEs T es c (y :: ys)
    | _ => false
  | .biP b i, c, x => match x with
    | .Call (.Name n _) [.Name m _] [] _ => (decide (b.nm = n) && btB T c n) && nmB c i m
    | _ => false
  | .mt m r es, c, x => match x with
    | .Call (.Attribute z n q) ys [] p => ((m.easy && decide (m.nm = n)) && (noSup z && (q.endLine == p.line))) && (decide (ys.length < 29) && (mE T r c z && mEs T es c ys))
    | _ => false
  | .mtP m r i, c, x => match x with
    | .Call (.Attribute z n q) [.Name y _] [] p => ((m.easy && decide (m.nm = n)) && (noSup z && (q.endLine == p.line))) && (mE T r c z && nmB c i y)
    | _ => false
  | .isi a n, c, x => match x with
    | .Call (.Name f _) [y, .Name t _] [] _ => (decide (f = "isinstance") && (btB T c f && btB T c t)) && (noStar y && (decide (bootBuiltins t = some (.type n)) && (!(t == ("__name__" : Str)) && mE T a c y)))
    | _ => false
  | .comp e tg it, c, x => match x with
    | .ListComp y [⟨t, z, [], 0⟩] scope _ => (noSet z && blkB c.N c.sc scope (ownS c tg)) && (mTg (c.blk scope) tg t && (mIt T it c z t && mE T e (c.blk scope) y))
    | _ => false
  | .compC e tg it d, c, x => match x with
    | .ListComp y [⟨t, z, [w], 0⟩] scope _ => (noSet z && blkB c.N c.sc scope (ownS c tg)) && (mTg (c.blk scope) tg t && (mIt T it c z t && ((tstE d && mE T d (c.blk scope) w) && mE T e (c.blk scope) y)))
    | _ => false
def mEs (T : Tb) : Es → Cs → List Expr → Bool
  | .nil, c, x => match x with
    | [] => true
    | _ => false
  | .cons e es, c, x => match x with
    | y :: ys => noStar y && (mE T e c y && mEs T es c ys)
    | _ => false
def mEo (T : Tb) : Eo → Cs → Option Expr → Bool
  | .non, c, x => match x with
    | none => true
    | _ => false
  | .som e, c, x => match x with
    | some y => mE T e c y
    | _ => false
def mIt (T : Tb) : It → Cs → Expr → Expr → Bool
  | .of e, c, x, t => mE T e c x
  | .rg1 e, c, x, t => match x with
    | .Call (.Name n _) [y] [] _ => (decide (n = "range") && btB T c n) && (noStar y && mE T e c y)
    | _ => false
  | .rg2 a b, c, x, t => match x with
    | .Call (.Name n _) [y, z] [] _ => (decide (n = "range") && btB T c n) && ((noStar y && noStar z) && (mE T a c y && mE T b c z))
    | _ => false
  | .enum e, c, x, t => match x, t with
    | .Call (.Name n _) [y] [] _, .Tuple _ _ _ => (decide (n = "enumerate") && btB T c n) && (noStar y && mE T e c y)
    | _, _ => false
  | .zip a b, c, x, t => match x, t with
    | .Call (.Name n _) [y, z] [] _, .Tuple _ _ _ => (decide (n = "zip") && btB T c n) && ((noStar y && noStar z) && (mE T a c y && mE T b c z))
    | _, _ => false
end
end Bw

set_option Elab.async false
set_option linter.all false
set_option maxRecDepth 100000
/-! Bw20: what was held against the text runs as the small language says: expressions. -/
namespace Bw
open PySem PySem.Spec PyProof.Rows L2

/-- the module's names -/
structure WOk (P : Program) (w : World) (K : PySem.W.Frag) (mg : Str → Option Value) (base : Heap) (k : Nat) (T : Tb) (Γ : Str → List D → CR) : Prop where
  fns : ∀ x n, T.fns.lookup x = some n → FnC P w K mg base k x (Γ x) n
  ar : ∀ x ds, Γ x ds ≠ .no → T.fns.lookup x = some ds.length
  glb : ∀ x d, T.glb.lookup x = some d → ∃ u v, mg x = some u ∧ RelV v u ∧ ∀ A H, VR K mg A H d v
  blt : ∀ x ∈ T.blt, mg x = none
/-- a place in the text -/
structure CtxOk (X : Cx) (k : Nat) (c : Cs) : Prop where
  N : X.N = c.N
  sc : X.env.scope = c.sc
  fn : X.fn = c.fn
  nd : c.N.Nodup
  calm : X.calm = true
  room : Room k X.A
theorem CtxOk.gd {X : Cx} {k : Nat} {c : Cs} (o : CtxOk X k c) : Gd X := ⟨o.calm, by have := o.room.un; omega, by rw [o.N]; exact o.nd⟩
theorem CtxOk.blk {X : Cx} {k : Nat} {c : Cs} (o : CtxOk X k c) (s : Shared) (H : Hp) (scope : Scope) (cl : List (Str × Addr)) (C : Addr) (fp : List Addr) : CtxOk (X.blk s H scope (compEnvC scope cl C X.env) fp) k (c.blk scope) :=
  ⟨o.N, by show relS scope X.env.scope = relS scope c.sc; rw [o.sc], rfl, o.nd, o.calm, o.room⟩
theorem ownS_snd (c : Cs) (t : Tg) : (ownS c t).map (·.2) = t.ixs := by
  unfold ownS
  rw [List.map_map]
  have : ((fun p : Str × Nat => p.2) ∘ fun i => ((c.N[i]?).getD "", i)) = id := rfl
  rw [this, List.map_id]
theorem takes0 {X : Cx} : Takes X W0 := fun _ _ ⟨_, _, _, _, _, _, _, _, _, _, _, _, _, _, _, _, w⟩ => w.elim
section
variable {X : Cx} {k : Nat} {c : Cs} {T : Tb} {W : WX} {ra : Env → Res Cell}
theorem nm_ok (o : CtxOk X k c) {i : Nat} {n : Str} (h : nmB c i n = true) : X.N[i]? = some n ∧ Vis X.env.scope n ∧ (n == ("__debug__" : Str)) = false ∧ (n == ("__classdict__" : Str)) = false := by
  simp only [nmB, ndb, Bool.and_eq_true, decide_eq_true_eq, Bool.not_eq_true'] at h
  obtain ⟨h1, h2, h3, h4⟩ := h
  exact ⟨by rw [o.N]; exact h1, by rw [o.sc]; exact visB_ok h2, h3, h4⟩
theorem gl_ok (o : CtxOk X k c) {n : Str} (h : glB c n = true) : Gl X n ∧ (n == ("__debug__" : Str)) = false := by
  simp only [glB, ndb, Bool.and_eq_true, Bool.not_eq_true'] at h
  obtain ⟨h1, h2, _⟩ := h
  refine ⟨?_, h2⟩
  show X.env.scope.names.lookup n = _
  rw [o.sc]
  split at h1
  · assumption
  · cases h1
theorem bt_ok {P : Program} {w : World} {K : PySem.W.Frag} {base : Heap} {Γ : Str → List D → CR} (o : CtxOk X k c) (wo : WOk P w K X.mg base k T Γ) {n : Str} (h : btB T c n = true) : Gl X n ∧ (n == ("__debug__" : Str)) = false ∧ X.mg n = none := by
  simp only [btB, Bool.and_eq_true, decide_eq_true_eq] at h
  obtain ⟨h1, h2⟩ := gl_ok o h.1
  exact ⟨h1, h2, wo.blt n h.2⟩
theorem tg_ok (o : CtxOk X k c) {i : Nat} {n : Str} {pos : Pos} (h : tgB c i n = true) : PG X (.Name n pos) (gName i) := by
  simp only [tgB, Bool.and_eq_true, decide_eq_true_eq] at h
  obtain ⟨h1, h2⟩ := h
  refine pg_name (by rw [o.N]; exact o.nd) (by rw [o.N]; exact h1) ?_ ?_
  · show X.env.scope.names.lookup n = _ ∨ X.env.scope.names.lookup n = _
    rw [o.sc]
    split at h2
    · exact .inl (by assumption)
    · exact .inr (by assumption)
    · cases h2
  · rw [o.sc, o.fn]
    split at h2
    · exact .inr (by assumption)
    · exact .inl h2
    · cases h2
theorem mTgs_ok (o : CtxOk X k c) : ∀ {is : List Nat} {es : List Expr}, mTgs c is es = true → PGs X es (gNames is) ∧ (assignEach es X.env).length = is.length ∧ (assignEach es X.env).findIdx? (·.1) = none
  | [], [], _ => ⟨pgs_nil, rfl, rfl⟩
  | i :: is, .Name n _ :: es, h => by
    simp only [mTgs, Bool.and_eq_true] at h
    obtain ⟨h1, h2, h3⟩ := mTgs_ok o h.2
    refine ⟨pgs_cons (tg_ok o h.1) h1 rfl, ?_, ?_⟩
    · show (assignEach es X.env).length + 1 = _
      rw [h2]
      rfl
    · show List.findIdx? (·.1) ((false, _) :: assignEach es X.env) = none
      rw [List.findIdx?_cons, h3]
      rfl
  | [], _ :: _, h => by cases h
  | _ :: _, [], h => by cases h
theorem mTg_ok (o : CtxOk X k c) {t : Tg} {x : Expr} (h : mTg c t x = true) : PG X x (gTg X.K t) := by
  cases t with
  | nm i => cases x <;> first | exact tg_ok o h | cases h
  | tp is =>
    cases x with
    | Tuple es k pos =>
      obtain ⟨h1, h2, h3⟩ := mTgs_ok o h
      exact pg_tup o.calm h1 h2 h3
    | _ => cases h
def isB : Expr → Bool
  | .BoolOp .. => true
  | _ => false
/-- what a match gives -/
structure OkE (X : Cx) (W : WX) (e : E) (x : Expr) (r : Env → Res Cell) : Prop where
  pe : PE X x (tE X W r)
  pt : tstE e = true → PT X x (tT X W r)
  pw : tstE e = true → isB x = true → PW X x (tT X W r)
theorem OkE.of {e : E} {x : Expr} {r : Env → Res Cell} (h : PE X x (tE X W r)) (h2 : tstE e = true → PT X x (tT X W r)) (hb : isB x = false) : OkE X W e x r := ⟨h, h2, fun _ z => by rw [hb] at z; cases z⟩
theorem OkE.ofB {e : E} {x : Expr} {r : Env → Res Cell} (h : PE X x (tE X W r)) (h2 : tstE e = true → PW X x (tT X W r)) : OkE X W e x r := ⟨h, fun z => (h2 z).pt, fun z _ => h2 z⟩
theorem plainT_nb {x : Expr} (h : plainT x = true) : isB x = false := by cases x <;> first | rfl | cases h
theorem OkE.plain {e : E} {x : Expr} {r : Env → Res Cell} (h : PE X x (tE X W r)) (hx : plainT x = true) : OkE X W e x r := .of h (fun _ => pt_trueE h fun whole => plainT_ok hx X.env whole) (plainT_nb hx)
theorem OkE.val {e : E} {x : Expr} {r : Env → Res Cell} (h : PE X x (tE X W r)) (hx : tstE e = false) : OkE X W e x r := ⟨h, fun z => (by rw [hx] at z; cases z), fun z => by rw [hx] at z; cases z⟩
theorem mEs_star : ∀ {es : Es} {xs : List Expr}, mEs T es c xs = true → xs.all noStar = true
  | .nil, [], _ => rfl
  | .cons e es, x :: xs, h => by
    simp only [mEs, Bool.and_eq_true] at h
    rw [List.all_cons, h.1, mEs_star h.2.2]
    rfl
  | .nil, _ :: _, h => by cases h
  | .cons _ _, [], h => by cases h
end
variable {T : Tb} {Γ : Str → List D → CR} {k : Nat}
mutual
theorem mE_ok : ∀ (e : E) {X : Cx} {c : Cs} {W : WX} {x : Expr}, CtxOk X k c → WOk X.prog X.w X.K X.mg X.base k T Γ → Takes X W → mE T e c x = true → OkE X W e x (fun ρ => ev Γ e ρ)
  | .cst d, X, c, W, x, o, wo, tk, h => by
    simp only [mE] at h
    split at h
    · exact .val (pe_cstE (cstB_ok h)) rfl
    · cases h
  | .var i, X, c, W, x, o, wo, tk, h => by
    simp only [mE] at h
    split at h
    · obtain ⟨h1, h2, h3, h4⟩ := nm_ok o h
      exact .plain (pe_varE h1 h2 h3 h4) rfl
    · cases h
  | .take i, X, c, W, x, o, wo, tk, h => by
    simp only [mE] at h
    split at h
    · obtain ⟨h1, h2, h3, h4⟩ := nm_ok o h
      exact .val (pe_takeE h1 h2 h3 h4) rfl
    · cases h
  | .fz i, X, c, W, x, o, wo, tk, h => by
    simp only [mE] at h
    split at h
    · obtain ⟨h1, h2, h3, h4⟩ := nm_ok o h
      exact .val (pe_fzE h1 h2 h3 h4) rfl
    · cases h
  | .glb g d, X, c, W, x, o, wo, tk, h => by
    simp only [mE] at h
    split at h
    · rename_i n p
      simp only [Bool.and_eq_true, decide_eq_true_eq] at h
      obtain ⟨rfl, h1, h2⟩ := h
      obtain ⟨h3, h4⟩ := gl_ok o h1
      split at h2
      · rename_i d' e
        have e2 := D.same_ok h2
        subst e2
        exact .plain (pe_glbE h3 ⟨wo.glb _ _ e⟩ h4) rfl
      · cases h2
    · cases h
  | .tup es, X, c, W, x, o, wo, tk, h => by
    simp only [mE] at h
    split at h
    · exact .val (pe_tupE (mEs_ok es o wo tk h)) rfl
    · cases h
  | .lst es, X, c, W, x, o, wo, tk, h => by
    simp only [mE] at h
    split at h
    · exact .val (pe_lstE (mEs_ok es o wo tk h)) rfl
    · cases h
  | .bin q a b, X, c, W, x, o, wo, tk, h => by
    simp only [mE] at h
    split at h
    · rename_i x op y p
      simp only [Bool.and_eq_true] at h
      obtain ⟨h1, h2, h3⟩ := h
      have e := opB_ok h1
      subst e
      exact .plain (pe_bin (ops_op q) (mE_ok a o wo tk h2).pe (mE_ok b o wo tk h3).pe) rfl
    · cases h
  | .neg a, X, c, W, x, o, wo, tk, h => by
    simp only [mE] at h
    split at h
    · exact .val (pe_negE (mE_ok a o wo tk h).pe) rfl
    · cases h
  | .not a, X, c, W, x, o, wo, tk, h => by
    simp only [mE] at h
    split at h
    · have q := mE_ok a o wo tk h
      exact .of (pe_notE q.pe) (fun z => pt_notE (q.pt z)) rfl
    · cases h
  | .and a b, X, c, W, x, o, wo, tk, h => by
    simp only [mE] at h
    split at h
    · simp only [Bool.and_eq_true] at h
      have q := mE_ok a o wo tk h.1
      have r := mE_ok b o wo tk h.2
      refine .ofB (pe_andE q.pe (pe_one r.pe)) fun z => ?_
      simp only [tstE, Bool.and_eq_true] at z
      exact pw_andE (q.pt z.1) (pw_and1 (r.pt z.2))
    · simp only [Bool.and_eq_true] at h
      have q := mE_ok a o wo tk h.1
      have r := mE_ok b o wo tk h.2
      refine .ofB (pe_andE q.pe r.pe) fun z => ?_
      simp only [tstE, Bool.and_eq_true] at z
      exact pw_andE (q.pt z.1) (r.pw z.2 rfl)
    · cases h
  | .or a b, X, c, W, x, o, wo, tk, h => by
    simp only [mE] at h
    split at h
    · simp only [Bool.and_eq_true] at h
      have q := mE_ok a o wo tk h.1
      have r := mE_ok b o wo tk h.2
      refine .ofB (pe_orE q.pe (pe_one r.pe)) fun z => ?_
      simp only [tstE, Bool.and_eq_true] at z
      exact pw_orE (q.pt z.1) (pw_or1 (r.pt z.2))
    · simp only [Bool.and_eq_true] at h
      have q := mE_ok a o wo tk h.1
      have r := mE_ok b o wo tk h.2
      refine .ofB (pe_orE q.pe r.pe) fun z => ?_
      simp only [tstE, Bool.and_eq_true] at z
      exact pw_orE (q.pt z.1) (r.pw z.2 rfl)
    · cases h
  | .ite t a b, X, c, W, x, o, wo, tk, h => by
    simp only [mE] at h
    split at h
    · simp only [Bool.and_eq_true] at h
      obtain ⟨⟨h1, h2⟩, h3, h4⟩ := h
      exact .val (pe_iteE ((mE_ok t o wo tk h2).pt h1) (mE_ok a o wo tk h3).pe (mE_ok b o wo tk h4).pe) rfl
    · cases h
  | .cmp q a b, X, c, W, x, o, wo, tk, h => by
    simp only [mE] at h
    split at h
    · rename_i x op y p
      simp only [Bool.and_eq_true, Bool.not_eq_true'] at h
      obtain ⟨⟨h1, h2⟩, h3, h4⟩ := h
      have e := cmB_ok h1
      subst e
      have ho := cms_op o.gd q
      exact .of (pe_cmpE ho (mE_ok a o wo tk h3).pe (mE_ok b o wo tk h4).pe h2) (fun _ => pt_cmpE ho (mE_ok a o wo tk h3).pe (mE_ok b o wo tk h4).pe h2) rfl
    · cases h
  | .cmp2 q r a b d, X, c, W, x, o, wo, tk, h => by
    simp only [mE] at h
    split at h
    · rename_i x op op2 y z p
      simp only [Bool.and_eq_true, Bool.not_eq_true'] at h
      obtain ⟨⟨⟨h1, h2⟩, h3⟩, h4, h5, h6⟩ := h
      have e := cmB_ok h1
      have e2 := cmB_ok h2
      subst e
      subst e2
      exact .of (pe_cmp2E o.gd q r (mE_ok a o wo tk h4).pe (mE_ok b o wo tk h5).pe (mE_ok d o wo tk h6).pe h3) (fun _ => pt_cmp2E o.gd q r (mE_ok a o wo tk h4).pe (mE_ok b o wo tk h5).pe (mE_ok d o wo tk h6).pe h3) rfl
    · cases h
  | .idx a i, X, c, W, x, o, wo, tk, h => by
    simp only [mE] at h
    split at h
    · simp only [Bool.and_eq_true] at h
      exact .plain (pe_idxE (mE_ok a o wo tk h.2.1).pe (mE_ok i o wo tk h.2.2).pe (plainI_ok h.1)) rfl
    · cases h
  | .slc a lo hi, X, c, W, x, o, wo, tk, h => by
    simp only [mE] at h
    split at h
    · simp only [Bool.and_eq_true] at h
      exact .plain (pe_slcE (mE_ok a o wo tk h.1).pe (mEo_ok lo o wo tk h.2.1) (mEo_ok hi o wo tk h.2.2)) rfl
    · cases h
  | .call f es, X, c, W, x, o, wo, tk, h => by
    simp only [mE] at h
    split at h
    · rename_i n p y ys q
      simp only [Bool.and_eq_true, decide_eq_true_eq] at h
      obtain ⟨⟨rfl, h1, h2⟩, h3⟩ := h
      obtain ⟨h4, h5⟩ := gl_ok o h1
      obtain ⟨m, hm⟩ := Option.isSome_iff_exists.mp h2
      have st := mEs_star h3
      rw [List.all_cons, Bool.and_eq_true] at st
      exact .plain (pe_callE (wo.fns _ _ hm) o.room tk h4 (fun ds hn => by
        have z := wo.ar _ ds hn
        rw [hm] at z
        exact (Option.some.inj z).symm) (mEs_ok es o wo tk h3) h5 (star_ok st.1 _ _) (plain_ok st.2 _ _)) rfl
    · cases h
  | .callv f es, X, c, W, x, o, wo, tk, h => by
    simp only [mE] at h
    split at h
    · rename_i z y ys q
      simp only [Bool.and_eq_true] at h
      obtain ⟨h1, h2, h3⟩ := h
      have st := mEs_star h3
      rw [List.all_cons, Bool.and_eq_true] at st
      exact .plain (pe_callvE (fun x ds hn => wo.fns _ _ (wo.ar x ds hn)) o.room tk (mE_ok f o wo tk h2).pe (mEs_ok es o wo tk h3) (call_eval h1 _ _ _) (star_ok st.1 _ _) (plain_ok st.2 _ _)) rfl
    · cases h
  | .bi b es, X, c, W, x, o, wo, tk, h => by
    simp only [mE] at h
    split at h
    · rename_i n p y ys q
      simp only [Bool.and_eq_true, decide_eq_true_eq] at h
      obtain ⟨⟨rfl, h1⟩, h3⟩ := h
      obtain ⟨h4, h5, h6⟩ := bt_ok o wo h1
      have st := mEs_star h3
      rw [List.all_cons, Bool.and_eq_true] at st
      exact .plain (pe_biE o.gd b h4 h6 (mEs_ok es o wo tk h3) (star_ok st.1 _ _) (plain_ok st.2 _ _)) rfl
    · cases h
  | .biP b i, X, c, W, x, o, wo, tk, h => by
    simp only [mE] at h
    split at h
    · rename_i n p m q q2
      simp only [Bool.and_eq_true, decide_eq_true_eq] at h
      obtain ⟨⟨rfl, h1⟩, h3⟩ := h
      obtain ⟨h4, h5, h6⟩ := bt_ok o wo h1
      obtain ⟨n1, n2, n3, n4⟩ := nm_ok o h3
      exact .plain (pe_biPE o.gd b h4 h6 n1 n2 n3 n4) rfl
    · cases h
  | .mt m r es, X, c, W, x, o, wo, tk, h => by
    simp only [mE] at h
    split at h
    · rename_i z n q ys p
      simp only [Bool.and_eq_true, decide_eq_true_eq] at h
      obtain ⟨⟨⟨h1, rfl⟩, h2, h3⟩, h4, h5, h6⟩ := h
      have st := mEs_star h6
      cases ys with
      | nil =>
        cases es with
        | nil => exact .plain (pe_mt0E m h1 (mE_ok r o wo tk h5).pe (base_ok h2 _ _ _) h3) rfl
        | cons e es => cases h6
      | cons y ys =>
        have st2 := st
        rw [List.all_cons, Bool.and_eq_true] at st
        exact .plain (pe_mtE m h1 (mE_ok r o wo tk h5).pe (mEs_ok es o wo tk h6) (base_ok h2 _ _ _) (few_ok st2 (decide_eq_true h4) _ _) h3 (star_ok st.1 _ _) (plain_ok st.2 _ _)) rfl
    · cases h
  | .mtP m r i, X, c, W, x, o, wo, tk, h => by
    simp only [mE] at h
    split at h
    · rename_i z n q y q2 p
      simp only [Bool.and_eq_true, decide_eq_true_eq] at h
      obtain ⟨⟨⟨h1, rfl⟩, h2, h3⟩, h5, h6⟩ := h
      obtain ⟨n1, n2, n3, n4⟩ := nm_ok o h6
      exact .plain (pe_mtPE m h1 (mE_ok r o wo tk h5).pe n1 n2 n3 n4 (base_ok h2 _ _ _) h3) rfl
    · cases h
  | .isi a n, X, c, W, x, o, wo, tk, h => by
    simp only [mE] at h
    split at h
    · rename_i f p y t q p2
      simp only [Bool.and_eq_true, decide_eq_true_eq, Bool.not_eq_true'] at h
      obtain ⟨⟨rfl, h1, h2⟩, h3, h4, h5, h6⟩ := h
      obtain ⟨a1, a2, a3⟩ := bt_ok o wo h1
      obtain ⟨b1, b2, b3⟩ := bt_ok o wo h2
      exact .plain (pe_isiE a1 a3 b1 b3 h4 (by simpa using h5) b2 (mE_ok a o wo tk h6).pe (star_ok h3 _ _)) rfl
    · cases h
  | .comp e tg it, X, c, W, x, o, wo, tk, h => by
    simp only [mE] at h
    split at h
    · rename_i y t z scope p
      simp only [Bool.and_eq_true] at h
      obtain ⟨⟨h1, h2⟩, h3, h4, h5⟩ := h
      have q := pe_lcE (W := W) (rc := yesR) (re := fun ρ => ev Γ e ρ) (own := ownS c tg) (pos := p) (tgt := tg) o.calm (by rw [o.N]; exact o.nd) (mIt_ok it o wo tk h4) (by rw [o.N, o.sc]; exact blkOk_by h2) (ownS_snd c tg) (fun s H C cl fp => mTg_ok (o.blk s H scope cl C fp) h3) (fun s H C cl fp => pts_yes) (fun s H C cl fp => (mE_ok e (o.blk s H scope cl C fp) wo takes0 h5).pe) (noSet_ok h1 _)
      exact .plain q rfl
    · cases h
  | .compC e tg it d, X, c, W, x, o, wo, tk, h => by
    simp only [mE] at h
    split at h
    · rename_i y t z w scope p
      simp only [Bool.and_eq_true] at h
      obtain ⟨⟨h1, h2⟩, h3, h4, ⟨h6, h7⟩, h5⟩ := h
      exact .plain (pe_lcE (rc := fun ρ => ev Γ d ρ) (re := fun ρ => ev Γ e ρ) (own := ownS c tg) o.calm (by rw [o.N]; exact o.nd) (mIt_ok it o wo tk h4) (by rw [o.N, o.sc]; exact blkOk_by h2) (ownS_snd c tg) (fun s H C cl fp => mTg_ok (o.blk s H scope cl C fp) h3)
        (fun s H C cl fp => pts_one ((mE_ok d (o.blk s H scope cl C fp) wo takes0 h7).pt h6)) (fun s H C cl fp => (mE_ok e (o.blk s H scope cl C fp) wo takes0 h5).pe) (noSet_ok h1 _)) rfl
    · cases h
theorem mEs_ok : ∀ (es : Es) {X : Cx} {c : Cs} {W : WX} {xs : List Expr}, CtxOk X k c → WOk X.prog X.w X.K X.mg X.base k T Γ → Takes X W → mEs T es c xs = true → PA X xs (tA X W (fun ρ => evs Γ es ρ))
  | .nil, X, c, W, xs, o, wo, tk, h => by
    simp only [mEs] at h
    split at h
    · exact pa_nilE
    · cases h
  | .cons e es, X, c, W, xs, o, wo, tk, h => by
    simp only [mEs] at h
    split at h
    · simp only [Bool.and_eq_true] at h
      exact pa_consE (mE_ok e o wo tk h.2.1).pe (mEs_ok es o wo tk h.2.2) (star_ok h.1 _ _)
    · cases h
theorem mEo_ok : ∀ (e : Eo) {X : Cx} {c : Cs} {W : WX} {x : Option Expr}, CtxOk X k c → WOk X.prog X.w X.K X.mg X.base k T Γ → Takes X W → mEo T e c x = true → PO X x (tO X W (fun ρ => evo Γ e ρ))
  | .non, X, c, W, x, o, wo, tk, h => by
    simp only [mEo] at h
    split at h
    · exact po_nonE
    · cases h
  | .som e, X, c, W, x, o, wo, tk, h => by
    simp only [mEo] at h
    split at h
    · exact po_somE (mE_ok e o wo tk h).pe
    · cases h
theorem mIt_ok : ∀ (it : It) {X : Cx} {c : Cs} {W : WX} {x t : Expr}, CtxOk X k c → WOk X.prog X.w X.K X.mg X.base k T Γ → Takes X W → mIt T it c x t = true → PI X t x (tI X W (fun ρ => evi Γ it ρ))
  | .of e, X, c, W, x, t, o, wo, tk, h => pi_ofE (mE_ok e o wo tk h).pe
  | .rg1 e, X, c, W, x, t, o, wo, tk, h => by
    simp only [mIt] at h
    split at h
    · simp only [Bool.and_eq_true, decide_eq_true_eq] at h
      obtain ⟨⟨rfl, h1⟩, h2, h3⟩ := h
      obtain ⟨a1, a2, a3⟩ := bt_ok o wo h1
      exact pi_rg1E a1 a3 (mE_ok e o wo tk h3).pe (star_ok h2 _ _)
    · cases h
  | .rg2 a b, X, c, W, x, t, o, wo, tk, h => by
    simp only [mIt] at h
    split at h
    · simp only [Bool.and_eq_true, decide_eq_true_eq] at h
      obtain ⟨⟨rfl, h1⟩, ⟨h2, h4⟩, h3, h5⟩ := h
      obtain ⟨a1, a2, a3⟩ := bt_ok o wo h1
      exact pi_rg2E a1 a3 (mE_ok a o wo tk h3).pe (mE_ok b o wo tk h5).pe (by rw [star_ok h2, star_ok h4]; rfl) (by rw [star_ok h4]; rfl)
    · cases h
  | .enum e, X, c, W, x, t, o, wo, tk, h => by
    simp only [mIt] at h
    split at h
    · simp only [Bool.and_eq_true, decide_eq_true_eq] at h
      obtain ⟨⟨rfl, h1⟩, h2, h3⟩ := h
      obtain ⟨a1, a2, a3⟩ := bt_ok o wo h1
      exact pi_enumE a1 a3 (mE_ok e o wo tk h3).pe (star_ok h2 _ _)
    · cases h
  | .zip a b, X, c, W, x, t, o, wo, tk, h => by
    simp only [mIt] at h
    split at h
    · simp only [Bool.and_eq_true, decide_eq_true_eq] at h
      obtain ⟨⟨rfl, h1⟩, ⟨h2, h4⟩, h3, h5⟩ := h
      obtain ⟨a1, a2, a3⟩ := bt_ok o wo h1
      exact pi_zipE a1 a3 (mE_ok a o wo tk h3).pe (mE_ok b o wo tk h5).pe (star_ok h2 _ _) (by rw [star_ok h4]; rfl) (by rw [star_ok h4]; rfl)
    · cases h
end
end Bw

set_option Elab.async false
set_option linter.all false
set_option maxRecDepth 100000
/-! Bw21: the small language held against the written text: statements. -/
namespace Bw
open PySem PySem.Spec PyProof.Rows L2

/-! ### expressions where a token is out -/
def mET (T : Tb) (c : Cs) : E → Expr → Bool
  | .mt .replace r (.cons (.cst (.str y)) (.cons (.cst (.str z)) .nil)), x => (match x with
    | .Call (.Attribute v n q) [.Constant (.str y') _ _, .Constant (.str z') _ _] [] p => ((decide (n = "replace") && (cstB (.str y') (.str y) && cstB (.str z') (.str z))) && (!(y' == z') && (noSup v && (q.endLine == p.line)))) && mET T c r v
    | _ => false)
  | .mt .words r .nil, x => (match x with
    | .Call (.Attribute v n q) [] [] p => (decide (n = "split") && (noSup v && (q.endLine == p.line))) && mET T c r v
    | _ => false)
  | .bi .tuple (.cons e .nil), x => (match x with
    | .Call (.Name n _) [y] [] _ => (decide (n = "tuple") && btB T c n) && (noStar y && mET T c e y)
    | _ => false)
  | e, x => mE T e c x
section
variable {T : Tb} {Γ : Str → List D → CR} {k : Nat}
theorem PET.ofE {X : Cx} {e : Expr} {t : TE} (h : PE X e t) : PET X e t := fun pins s σ H Q _ I q => h.run pins s σ H Q I q
theorem mET_ok : ∀ (e : E) {X : Cx} {c : Cs} {W : WX} {x : Expr}, CtxOk X k c → WOk X.prog X.w X.K X.mg X.base k T Γ → Takes X W → mET T c e x = true → PET X x (tE X W (fun ρ => ev Γ e ρ)) := by
  intro e X c W x o wo tk h
  fun_induction mET T c e x with
  | case1 r y z v n q y' j c0 z' j1 c1 p ih =>
    simp only [Bool.and_eq_true, decide_eq_true_eq, Bool.not_eq_true'] at h
    obtain ⟨⟨⟨rfl, h1, h2⟩, h3, h4, h5⟩, h6⟩ := h
    have e1 : y'.cps.toList = y := by
      simp only [cstB, Bool.and_eq_true, decide_eq_true_eq] at h1
      exact h1.1.1
    have e2 : z'.cps.toList = z ∧ ∀ c ∈ z, c < 0x110000 := by
      simp only [cstB, Bool.and_eq_true, decide_eq_true_eq] at h2
      exact ⟨h2.1.1, fun c hc => of_decide_eq_true (List.all_eq_true.mp h2.2 c hc)⟩
    obtain ⟨e2, e3⟩ := e2
    subst e1
    subst e2
    exact pet_replE (ih h6) h3 e3 rfl (base_ok h4 _ _ _) h5
  | case3 r v n q p ih =>
    simp only [Bool.and_eq_true, decide_eq_true_eq] at h
    obtain ⟨⟨rfl, h1, h2⟩, h3⟩ := h
    exact pet_wordsE (ih h3) (base_ok h1 _ _ _) h2
  | case5 e n p y q ih =>
    simp only [Bool.and_eq_true, decide_eq_true_eq] at h
    obtain ⟨⟨rfl, h1⟩, h2, h3⟩ := h
    obtain ⟨a1, a2, a3⟩ := bt_ok o wo h1
    refine (pet_tupleE o.gd a1 a3 (ih h3) (star_ok h2 _ _)).impB fun pins s σ H Q I z => ?_
    obtain ⟨R, ρ, F, rel, z⟩ := z
    refine ⟨R, ρ, F, rel, ?_⟩
    simp only [ev, evs] at z
    dsimp only
    cases q : ev Γ e ρ with
    | no => rw [q] at z; exact z
    | ex x ρ1 => rw [q] at z; exact z
    | ok c ρ1 => rw [q] at z; exact z
  | _ => first | exact PET.ofE (mE_ok _ o wo tk h).pe | cases h
end
/-! ### looks -/
def penB (e : E) (x : Expr) : Bool := match e, x with
  | .idx _ (.cst _), .Subscript _ (.Constant k _ _) _ => litC k
  | _, _ => false
/-- behind it a token is out where it is not true -/
def ptfB (e : E) (x : Expr) : Bool := match e, x with
  | .or a (.cmp _ (.cst _) _), .BoolOp .Or [_, .Compare (.Constant k _ _) _ _ _] _ => tstE a && litC k
  | _, _ => false
def stopsB : Ss → Bool
  | .cons (.ret _) .nil => true
  | .cons .retN .nil => true
  | .cons (.raise _ _) .nil => true
  | _ => false
def lclB (c : Cs) (i : Nat) (n : Str) : Bool := decide (c.N[i]? = some n) && (match c.sc.names.lookup n with
  | some .local => true
  | _ => false)
def mHA (c : Cs) (slot : Option Nat) : HA → Expr → Bool
  | .cst d, .Constant k _ _ => cstB k d
  | .fld f, .Attribute (.Name n _) g _ => decide (f = g) && (match slot with
    | some i => nmB c i n
    | none => false)
  | _, _ => false
def mHAs (c : Cs) (slot : Option Nat) : List HA → List Expr → Bool
  | [], [] => true
  | h :: hs, x :: xs => noStar x && (mHA c slot h x && mHAs c slot hs xs)
  | _, _ => false
def mHB (c : Cs) (slot : Option Nat) : HB → List Stmt → Bool
  | .bad, _ => true
  | .one h, [.Return (some x) _] => mHA c slot h x
  | .tup hs, [.Return (some (.Tuple xs _ _)) _] => decide (hs.length ≤ 100) && mHAs c slot hs xs
  | _, _ => false
def slB (c : Cs) : Option Nat → Option Str → Bool
  | none, none => true
  | some i, some n => lclB c i n
  | _, _ => false
def mHd (T : Tb) (c : Cs) : List Hd → List ExceptHandler → Bool
  | [], [] => true
  | h :: hs, .ExceptHandler (some (.Name x _)) n (b :: bs) _ :: es => (decide (h.cls = x) && (glB c x && decide (x ∈ T.cls))) && ((slB c h.slot n && mHB c h.slot h.body (b :: bs)) && mHd T c hs es)
  | _, _ => false
mutual
def mS (T : Tb) : S → Cs → Stmt → Bool
  | .pass, c, x => match x with
    | .Pass _ => true
    | _ => false
  | .asg i e, c, x => match x with
    | .Assign [.Name n p] v q => tgB c i n && mE T e c v
    | _ => false
  | .own i e, c, x => match x with
    | .Assign [.Name n p] v q => tgB c i n && mE T e c v
    | _ => false
  | .asgT is e, c, x => match x with
    | .Assign [.Tuple ns k p] v q => noComp v && (noTup v && (mTgs c is ns && mE T e c v))
    | _ => false
  | .ite t a b, c, x => match x with
    | .If z u v _ => (tstE t && mE T t c z) && (mSs T a c u && mSs T b c v)
    | _ => false
  | .loop tg it b, c, x => match x with
    | .For t z u [] _ => noSet z && (mTg c tg t && (mIt T it c z t && mSs T b c u))
    | _ => false
  | .wh n t b, c, x => match x with
    | .While z u [] _ => (tstE t && mE T t c z) && mSs T b c u
    | _ => false
  | .ret e, c, x => match x with
    | .Return (some v) _ => mE T e c v
    | _ => false
  | .retN, c, x => match x with
    | .Return none _ => true
    | _ => false
  | .expr e, c, x => match x with
    | .Expr v _ => noComp v && mE T e c v
    | _ => false
  | .raise n es, c, x => match x with
    | .Raise (some (.Call (.Name m _) (y :: ys) [] _)) none _ => (decide (n = m) && (glB c m && (T.exf.lookup m).isSome)) && mEs T es c (y :: ys)
    | _ => false
  | .app i e, c, x => match x with
    | .Expr (.Call (.Attribute (.Name n _) f q) [y] [] p) _ => (decide (f = "append") && (nmB c i n && (q.endLine == p.line))) && (noStar y && mE T e c y)
    | _ => false
  | .tr b hs, c, x => match x with
    | .Try u (h :: es) [] [] _ => mSs T b c u && mHd T c hs (h :: es)
    | _ => false
def mSs (T : Tb) : Ss → Cs → List Stmt → Bool
  | .nil, c, x => match x with
    | [] => true
    | _ => false
  | .cons s ss, c, x => match x with
    | y :: ys => mS T s c y && mSs T ss c ys
    | _ => false
end
/-- with a token -/
def mSsT (T : Tb) : Ss → Cs → List Stmt → Bool
  | .nil, c, x => match x with
    | [] => true
    | _ => false
  | .cons s ss, c, x => match x with
    | y :: ys => (match s, y with
      | .ret e, .Return (some v) _ => mET T c e v
      | s, y => mS T s c y) && mSsT T ss c ys
    | _ => false
/-- behind this statement a token is out -/
def tokS (c : Cs) : S → Stmt → Bool
  | .asg i e, .Assign [.Name n _] v _ => penB e v && lclB c i n
  | .ite t a .nil, .If z _ [] _ => ptfB t z && stopsB a
  | _, _ => false
/-- a body: from where a token is out, with it -/
def mB (T : Tb) : Ss → Cs → List Stmt → Bool
  | .nil, c, x => match x with
    | [] => true
    | _ => false
  | .cons s ss, c, x => match x with
    | y :: ys => mS T s c y && (if tokS c s y then mSsT T ss c ys else mB T ss c ys)
    | _ => false
section
variable {T : Tb} {Γ : Str → List D → CR} {k : Nat}
/-- name = e -/
theorem asg_ok {X : Cx} {c : Cs} {W : WX} {e : E} {n : Str} {i : Nat} {p q : Pos} {v : Expr} (o : CtxOk X k c) (wo : WOk X.prog X.w X.K X.mg X.base k T Γ) (tk : Takes X W) (ht : tgB c i n = true) (h : mE T e c v = true) :
    PS X (.Assign [.Name n p] v q) (tAsg (tE X W (fun ρ => ev Γ e ρ)) (gName i)) := by
  have hN : X.N.Nodup := by rw [o.N]; exact o.nd
  simp only [tgB, Bool.and_eq_true, decide_eq_true_eq] at ht
  have hi : X.N[i]? = some n := by rw [o.N]; exact ht.1
  have hl : L2.Loc X.env.scope n := by
    show X.env.scope.names.lookup n = _ ∨ X.env.scope.names.lookup n = _
    rw [o.sc]
    have h2 := ht.2
    split at h2
    · exact .inl (by assumption)
    · exact .inr (by assumption)
    · cases h2
  have hf : X.fn n = true ∨ X.env.scope.names.lookup n = some .local := by
    rw [o.sc, o.fn]
    have h2 := ht.2
    split at h2
    · exact .inr (by assumption)
    · exact .inl h2
    · cases h2
  have plain : ∀ (hs : swapsWith v (some (.Name n p)) q.line X.env = pure false), PS X (.Assign [.Name n p] v q) (tAsg (tE X W (fun ρ => ev Γ e ρ)) (gName i)) := fun hs => ps_set hN hi hl (mE_ok e o wo tk h).pe hs hf
  cases hv : noComp v with
  | true => exact plain (noComp_ok hv _ _ _)
  | false =>
    cases v with
    | ListComp y gs scope vp =>
      cases hb : (X.env.blockKind == ScopeKind.function && X.env.kindOf n == some NameKind.local && p.line == (Expr.ListComp y gs scope vp).pos.line && !scope.names.any fun (m, k) => m == n && (k == NameKind.local || k == NameKind.cell)) with
      | false => exact plain (by
          show pure (X.env.blockKind == ScopeKind.function && X.env.kindOf n == some NameKind.local && p.line == (Expr.ListComp y gs scope vp).pos.line && !scope.names.any fun (m, k) => m == n && (k == NameKind.local || k == NameKind.cell)) = pure false
          rw [hb])
      | true =>
        have hsw : swapsWith (.ListComp y gs scope vp) (some (.Name n p)) q.line X.env = pure true := by
          show pure (X.env.blockKind == ScopeKind.function && X.env.kindOf n == some NameKind.local && p.line == (Expr.ListComp y gs scope vp).pos.line && !scope.names.any fun (m, k) => m == n && (k == NameKind.local || k == NameKind.cell)) = pure true
          rw [hb]
        have hyl : X.env.scope.names.lookup n = some .local := by
          simp only [Bool.and_eq_true, beq_iff_eq] at hb
          exact hb.1.1.2
        cases e with
        | comp e tg it =>
          simp only [mE] at h
          split at h
          · rename_i y' t z scope' p' heq
            cases heq
            simp only [Bool.and_eq_true] at h
            obtain ⟨⟨h1, h2⟩, h3, h4, h5⟩ := h
            refine (ps_setLc (wi := tI X W fun ρ => evi Γ it ρ) (g := gTg X.K tg) (tt := tTs X yesR) (te := tE X W0 fun ρ => ev Γ e ρ) (own := ownS c tg) o.calm hN hi hyl hsw (mIt_ok it o wo tk h4) (by rw [o.N, o.sc]; exact blkOk_by h2) (fun s H C cl fp => mTg_ok (o.blk s H scope cl C fp) h3) (fun s H C cl fp => pts_yes) (fun s H C cl fp => (mE_ok e (o.blk s H scope cl C fp) wo takes0 h5).pe) (noSet_ok h1 _)).impB fun pins s D σ H I z => ?_
            exact lc_ok (ownS_snd c tg) z
          · cases h
        | compC e tg it d =>
          simp only [mE] at h
          split at h
          · rename_i y' t z w scope' p' heq
            cases heq
            simp only [Bool.and_eq_true] at h
            obtain ⟨⟨h1, h2⟩, h3, h4, ⟨h6, h7⟩, h5⟩ := h
            refine (ps_setLc (wi := tI X W fun ρ => evi Γ it ρ) (g := gTg X.K tg) (tt := tTs X fun ρ => ev Γ d ρ) (te := tE X W0 fun ρ => ev Γ e ρ) (own := ownS c tg) o.calm hN hi hyl hsw (mIt_ok it o wo tk h4) (by rw [o.N, o.sc]; exact blkOk_by h2) (fun s H C cl fp => mTg_ok (o.blk s H scope cl C fp) h3)
              (fun s H C cl fp => pts_one ((mE_ok d (o.blk s H scope cl C fp) wo takes0 h7).pt h6)) (fun s H C cl fp => (mE_ok e (o.blk s H scope cl C fp) wo takes0 h5).pe) (noSet_ok h1 _)).impB fun pins s D σ H I z => ?_
            exact lc_ok (ownS_snd c tg) z
          · cases h
        | _ => cases h
    | SetComp => cases e <;> cases h
    | DictComp => cases e <;> cases h
    | _ => cases hv
end
end Bw

set_option Elab.async false
set_option linter.all false
set_option maxRecDepth 100000
/-! Bw22: what was held against the text runs as the small language says: statements. -/
namespace Bw
open PySem PySem.Spec PyProof.Rows L2

def Tb.xi (T : Tb) : Str → List D → Option Exn := fun x ds => match T.exf.lookup x, ds with
  | some f, [d] => some ⟨x, some (f, d)⟩
  | _, _ => none
structure WOk2 (P : Program) (w : World) (K : PySem.W.Frag) (mg : Str → Option Value) (base : Heap) (k : Nat) (T : Tb) (Γ : Str → List D → CR) (sb : Str → Str → Option Bool) : Prop where
  wo : WOk P w K mg base k T Γ
  k2 : 2 ≤ k
  exf : ∀ x f, T.exf.lookup x = some f → ExF P w K mg base 1 x f
  cls : ∀ x ∈ T.cls, ∃ C, mg x = some (.ref C)
  sub : SubOk K mg sb
structure BodyOk (X : Cx) : Prop where
  pass : PassesOwn (model X.prog X.w) X.A X.env X.xe
  stk : X.stack = X.env :: X.outer
  frm : X.env.frame = some X.env.locals
section
variable {X : Cx} {c : Cs} {k : Nat} {T : Tb}
theorem lcl_ok (o : CtxOk X k c) {i : Nat} {n : Str} (h : lclB c i n = true) : X.N[i]? = some n ∧ X.env.scope.names.lookup n = some .local := by
  simp only [lclB, Bool.and_eq_true, decide_eq_true_eq] at h
  refine ⟨by rw [o.N]; exact h.1, ?_⟩
  rw [o.sc]
  have h2 := h.2
  split at h2
  · assumption
  · cases h2
theorem mHA_ok (o : CtxOk X k c) {slot : Option Nat} {h : HA} {x : Expr} {a : Addr} {cls : Value} {d : Option Addr} {oe : Obj} {pn : List (Addr × Obj)} (hz : Zc cls d oe) (hf : ∃ vs, oe.data = .fields vs) (m : mHA c slot h x = true) :
    PE (X.suite a ((a, oe) :: pn)) x (tHA X slot a cls d h) := by
  unfold mHA at m
  split at m
  · exact pe_haC (cstB_ok m)
  · simp only [Bool.and_eq_true, decide_eq_true_eq] at m
    obtain ⟨rfl, m⟩ := m
    cases slot with
    | none => cases m
    | some i =>
      obtain ⟨n1, n2, n3, n4⟩ := nm_ok o m
      exact pe_haF n1 n2 n3 n4 hz hf
  · cases m
theorem mHAs_ok (o : CtxOk X k c) {slot : Option Nat} {a : Addr} {cls : Value} {d : Option Addr} {oe : Obj} {pn : List (Addr × Obj)} (hz : Zc cls d oe) (hf : ∃ vs, oe.data = .fields vs) : ∀ {hs : List HA} {xs : List Expr}, mHAs c slot hs xs = true →
    PA (X.suite a ((a, oe) :: pn)) xs (tHAs X slot a cls d hs)
  | [], [], _ => pa_haN
  | h :: hs, x :: xs, m => by
    simp only [mHAs, Bool.and_eq_true] at m
    exact pa_haS (mHA_ok o hz hf m.2.1) (mHAs_ok o hz hf m.2.2) (star_ok m.1 _ _)
  | [], _ :: _, m => by cases m
  | _ :: _, [], m => by cases m
theorem mHB_ok (o : CtxOk X k c) {h : Hd} {ss : List Stmt} {a : Addr} {cls : Value} {d : Option Addr} {oe : Obj} {pn : List (Addr × Obj)} (hz : Zc cls d oe) (hf : ∃ vs, oe.data = .fields vs) (m : mHB c h.slot h.body ss = true) :
    PSs (X.suite a ((a, oe) :: pn)) ss (tHd X h a cls d) := by
  cases hb : h.body with
  | bad => exact pss_bad hb
  | one b =>
    rw [hb] at m
    unfold mHB at m
    split at m
    · rename_i e; cases e
    · rename_i e
      cases e
      exact pss_hd (by rw [hb]; exact pe_hb1 (mHA_ok o hz hf m))
    · rename_i e; cases e
    · cases m
  | tup bs =>
    rw [hb] at m
    unfold mHB at m
    split at m
    · rename_i e; cases e
    · rename_i e; cases e
    · rename_i e
      cases e
      simp only [Bool.and_eq_true, decide_eq_true_eq] at m
      exact pss_hd (by rw [hb]; exact pe_hbT m.1 (mHAs_ok o hz hf m.2))
    · cases m
theorem mHd_ok (o : CtxOk X k c) (hc : ∀ x ∈ T.cls, ∃ C, X.mg x = some (.ref C)) : ∀ {hs : List Hd} {es : List ExceptHandler}, mHd T c hs es = true → ∃ l, HdOk X es hs l
  | [], [], _ => ⟨[], .nil⟩
  | [], _ :: _, m => by cases m
  | h :: hs, [], m => by cases m
  | h :: hs, .ExceptHandler none _ _ _ :: es, m => by cases m
  | h :: hs, .ExceptHandler (some e) n body p :: es, m => by
    cases e with
    | Name x q =>
      cases body with
      | nil => cases m
      | cons b bs =>
        simp only [mHd, Bool.and_eq_true, decide_eq_true_eq] at m
        obtain ⟨⟨rfl, h1, h2⟩, ⟨h3, h4⟩, h5⟩ := m
        obtain ⟨g1, g2⟩ := gl_ok o h1
        obtain ⟨C, hC⟩ := hc _ h2
        obtain ⟨l, hl⟩ := mHd_ok o hc h5
        refine ⟨_, .cons g1 g2 hC ?_ (fun a oe cls d pn hz hf => mHB_ok o hz hf h4) hl⟩
        revert h3
        generalize h.slot = sl
        intro h3
        cases sl with
        | none => cases n with
          | none => exact True.intro
          | some _ => cases h3
        | some i => cases n with
          | none => cases h3
          | some _ => exact ⟨(lcl_ok o h3).1, (lcl_ok o h3).2⟩
    | _ => cases m
mutual
theorem mS_ok {T : Tb} {Γ : Str → List D → CR} {sb : Str → Str → Option Bool} {k : Nat} : ∀ (s : S) {X : Cx} {c : Cs} {W : WX} {x : Stmt}, CtxOk X k c → BodyOk X → WOk2 X.prog X.w X.K X.mg X.base k T Γ sb → Takes X W → mS T s c x = true → PS X x (tS X W (fun ρ => xs Γ T.xi sb s ρ))
  | .pass, X, c, W, x, o, bo, wo, tk, h => by
    simp only [mS] at h
    split at h
    · exact ps_passE
    · cases h
  | .asg i e, X, c, W, x, o, bo, wo, tk, h => by
    simp only [mS] at h
    split at h
    · simp only [Bool.and_eq_true] at h
      exact (asg_ok o wo.wo tk h.1 h.2).impB fun pins s D σ H I z => tAsg_ok (s := s) (pins := pins) true z
    · cases h
  | .own i e, X, c, W, x, o, bo, wo, tk, h => by
    simp only [mS] at h
    split at h
    · simp only [Bool.and_eq_true] at h
      exact (asg_ok o wo.wo tk h.1 h.2).impB fun pins s D σ H I z => tAsg_ok (s := s) (pins := pins) false z
    · cases h
  | .asgT is e, X, c, W, x, o, bo, wo, tk, h => by
    simp only [mS] at h
    split at h
    · rename_i ns kk p v q
      simp only [Bool.and_eq_true] at h
      obtain ⟨h1, h2, h3, h4⟩ := h
      obtain ⟨g1, g2, g3⟩ := mTgs_ok o h3
      refine (ps_asg (mE_ok e o wo.wo tk h4).pe (pg_tup o.calm g1 g2 g3) (by unfold swapsWithSole; exact noComp_ok h1 _ _ _) ?_ rfl).impB fun pins s D σ H I ⟨R, ρ, F, rel, z⟩ => tE.out rel z fun c ρ1 y H1 pv z1 => ?_
      · cases v <;> first | rfl | cases h2
      · obtain ⟨F1, rel1, v1, st1⟩ := pv.frz
        cases ep : (Tg.tp is).put c.frz ρ1 with
        | none => rw [ep] at z1; exact z1.elim
        | some ρ2 =>
          rw [ep] at z1
          exact gTg_ok (t := .tp is) rel1 v1 ep fun σ2 F2 rel2 h2 _ => z1 σ2 H1 F2 rel2 (st1.trans (Stp.sub h2))
    · cases h
  | .ite t a b, X, c, W, x, o, bo, wo, tk, h => by
    simp only [mS] at h
    split at h
    · simp only [Bool.and_eq_true] at h
      obtain ⟨⟨h1, h2⟩, h3, h4⟩ := h
      exact ps_iteE ((mE_ok t o wo.wo tk h2).pt h1) (mSs_ok a o bo wo tk h3) (mSs_ok b o bo wo tk h4)
    · cases h
  | .loop tg it b, X, c, W, x, o, bo, wo, tk, h => by
    simp only [mS] at h
    split at h
    · simp only [Bool.and_eq_true] at h
      obtain ⟨h1, h2, h3, h4⟩ := h
      exact ps_forE bo.pass o.calm (mIt_ok it o wo.wo tk h3) (mTg_ok o h2) (mSs_ok b o bo wo tk h4) (noSet_ok h1 _)
    · cases h
  | .wh n t b, X, c, W, x, o, bo, wo, tk, h => by
    simp only [mS] at h
    split at h
    · simp only [Bool.and_eq_true] at h
      obtain ⟨⟨h1, h2⟩, h3⟩ := h
      exact ps_whE bo.pass ((mE_ok t o wo.wo tk h2).pt h1) (mSs_ok b o bo wo tk h3)
    · cases h
  | .ret e, X, c, W, x, o, bo, wo, tk, h => by
    simp only [mS] at h
    split at h
    · exact ps_retE (mE_ok e o wo.wo tk h).pe
    · cases h
  | .retN, X, c, W, x, o, bo, wo, tk, h => by
    simp only [mS] at h
    split at h
    · exact ps_retNE
    · cases h
  | .expr e, X, c, W, x, o, bo, wo, tk, h => by
    simp only [mS] at h
    split at h
    · simp only [Bool.and_eq_true] at h
      exact ps_exprE (mE_ok e o wo.wo tk h.2).pe (noComp_ok h.1 _ _ _)
    · cases h
  | .raise n es, X, c, W, x, o, bo, wo, tk, h => by
    simp only [mS] at h
    split at h
    · rename_i m p y ys q r
      simp only [Bool.and_eq_true, decide_eq_true_eq] at h
      obtain ⟨⟨rfl, h1, h2⟩, h3⟩ := h
      obtain ⟨g1, g2⟩ := gl_ok o h1
      obtain ⟨f, hf⟩ := Option.isSome_iff_exists.mp h2
      have st := mEs_star h3
      rw [List.all_cons, Bool.and_eq_true] at st
      refine (ps_raiseE o.calm tk (wo.exf _ _ hf) (o.room.mono wo.k2) g1 (mEs_ok es o wo.wo tk h3) g2 (star_ok st.1 _ _) (plain_ok st.2 _ _)).impB fun pins s D σ H I ⟨R, ρ, F, rel, z⟩ => ⟨R, ρ, F, rel, ?_⟩
      simp only [xs, Tb.xi, hf] at z
      dsimp only
      cases e : evs Γ es ρ with
      | no => rw [e] at z; exact z
      | ex x r => rw [e] at z; exact z
      | ok ds r =>
        rw [e] at z
        cases ds with
        | nil => exact z
        | cons d ds => cases ds with
          | nil => exact z
          | cons _ _ => exact z
    · cases h
  | .app i e, X, c, W, x, o, bo, wo, tk, h => by
    simp only [mS] at h
    split at h
    · simp only [Bool.and_eq_true, decide_eq_true_eq] at h
      obtain ⟨⟨rfl, h1, h2⟩, h3, h4⟩ := h
      obtain ⟨n1, n2, n3, n4⟩ := nm_ok o h1
      exact ps_appE n1 n2 n3 n4 (mE_ok e o wo.wo tk h4).pe (few_ok (by rw [List.all_cons, h3]; rfl) rfl _ _) h2 (star_ok h3 _ _)
    · cases h
  | .tr b hs, X, c, W, x, o, bo, wo, tk, h => by
    simp only [mS] at h
    split at h
    · simp only [Bool.and_eq_true] at h
      obtain ⟨l, hl⟩ := mHd_ok o wo.cls h.2
      exact ps_tryE (f := fun ρ => xss Γ T.xi sb b ρ) bo.stk bo.frm (by rw [o.N]; exact o.nd) tk wo.sub (fun W' pn xe tk' hp => mSs_ok b (X := X.tr pn xe) ⟨o.N, o.sc, o.fn, o.nd, o.calm, o.room⟩ ⟨hp, bo.stk, bo.frm⟩ wo tk' h.1) hl
    · cases h
theorem mSs_ok {T : Tb} {Γ : Str → List D → CR} {sb : Str → Str → Option Bool} {k : Nat} : ∀ (s : Ss) {X : Cx} {c : Cs} {W : WX} {x : List Stmt}, CtxOk X k c → BodyOk X → WOk2 X.prog X.w X.K X.mg X.base k T Γ sb → Takes X W → mSs T s c x = true → PSs X x (tS X W (fun ρ => xss Γ T.xi sb s ρ))
  | .nil, X, c, W, x, o, bo, wo, tk, h => by
    simp only [mSs] at h
    split at h
    · exact pss_nilE
    · cases h
  | .cons s ss, X, c, W, x, o, bo, wo, tk, h => by
    simp only [mSs] at h
    split at h
    · simp only [Bool.and_eq_true] at h
      exact pss_consE (mS_ok s o bo wo tk h.1) (mSs_ok ss o bo wo tk h.2)
    · cases h
end
end
end Bw

set_option Elab.async false
set_option linter.all false
set_option maxRecDepth 100000
/-! Bw23: a def by its body. -/
namespace Bw
open PySem PySem.Spec PyProof.Rows L2

section
variable {T : Tb} {Γ : Str → List D → CR} {sb : Str → Str → Option Bool} {k : Nat}
theorem mSsT_ok : ∀ (s : Ss) {X : Cx} {c : Cs} {W : WX} {x : List Stmt}, CtxOk X k c → BodyOk X → WOk2 X.prog X.w X.K X.mg X.base k T Γ sb → Takes X W → mSsT T s c x = true → PSsT X x (tS X W (fun ρ => xss Γ T.xi sb s ρ))
  | .nil, X, c, W, x, o, bo, wo, tk, h => by
    simp only [mSsT] at h
    split at h
    · exact PSsT.of pss_nilE
    · cases h
  | .cons s ss, X, c, W, x, o, bo, wo, tk, h => by
    simp only [mSsT] at h
    split at h
    · rename_i y ys
      simp only [Bool.and_eq_true] at h
      refine psst_consE ?_ (mSsT_ok ss o bo wo tk h.2)
      have h1 := h.1
      split at h1
      · exact pst_retE (mET_ok _ o wo.wo tk h1)
      · exact PST.of (mS_ok s o bo wo tk h1)
    · cases h
theorem pen_ok {X : Cx} {c : Cs} {W : WX} {e : E} {x : Expr} (o : CtxOk X k c) (wo : WOk X.prog X.w X.K X.mg X.base k T Γ) (tk : Takes X W) (h : mE T e c x = true) (hp : penB e x = true) : PEn X x (tE X W (fun ρ => ev Γ e ρ)) := by
  unfold penB at hp
  split at hp
  · rename_i a d u kk j cp pos
    simp only [mE, Bool.and_eq_true] at h
    exact pen_idxE (mE_ok a o wo tk h.2.1).pe (pen_cstE (cstB_ok h.2.2) hp) (plainI_ok h.1)
  · cases hp
theorem ptf_ok {X : Cx} {c : Cs} {W : WX} {e : E} {x : Expr} (o : CtxOk X k c) (wo : WOk X.prog X.w X.K X.mg X.base k T Γ) (tk : Takes X W) (h : mE T e c x = true) (hp : ptfB e x = true) : PTf X x (tT X W (fun ρ => ev Γ e ρ)) := by
  unfold ptfB at hp
  split at hp
  · rename_i a q d b u kk j cp ops bs pos2 pos
    simp only [Bool.and_eq_true] at hp
    simp only [mE] at h
    simp only [Bool.and_eq_true] at h
    obtain ⟨h1, h2⟩ := h
    split at h2
    · rename_i x' op y' p' heq
      cases heq
      simp only [Bool.and_eq_true, Bool.not_eq_true'] at h2
      obtain ⟨⟨h3, h4⟩, h5, h6⟩ := h2
      have e := cmB_ok h3
      subst e
      exact ptf_orE ((mE_ok a o wo tk h1).pt hp.1) (ptf_cmpE (cms_op o.gd q) (pen_cstE (cstB_ok h5) hp.2) (mE_ok b o wo tk h6).pe h4)
    · cases h2
  · cases hp
theorem stops_ok {a : Ss} (h : stopsB a = true) : Stops (fun ρ => xss Γ T.xi sb a ρ) := by
  unfold stopsB at h
  intro ρ ρ' e
  split at h
  · rename_i e0
    simp only [xss, xs] at e
    cases q : ev Γ e0 ρ <;> rw [q] at e <;> cases e
  · cases e
  · rename_i x es
    simp only [xss, xs] at e
    cases q : evs Γ es ρ with
    | no => rw [q] at e; cases e
    | ex _ _ => rw [q] at e; cases e
    | ok ds r =>
      rw [q] at e
      simp only [Res.out] at e
      cases q2 : T.xi x ds <;> rw [q2] at e <;> cases e
  · cases h
theorem mB_ok : ∀ (s : Ss) {X : Cx} {c : Cs} {W : WX} {x : List Stmt}, CtxOk X k c → BodyOk X → WOk2 X.prog X.w X.K X.mg X.base k T Γ sb → Takes X W → mB T s c x = true → PSs X x (tS X W (fun ρ => xss Γ T.xi sb s ρ))
  | .nil, X, c, W, x, o, bo, wo, tk, h => by
    simp only [mB] at h
    split at h
    · exact pss_nilE
    · cases h
  | .cons s ss, X, c, W, x, o, bo, wo, tk, h => by
    simp only [mB] at h
    split at h
    · rename_i y ys
      simp only [Bool.and_eq_true] at h
      obtain ⟨h1, h2⟩ := h
      split at h2
      · rename_i hc
        unfold tokS at hc
        split at hc
        · rename_i i e n p v q
          simp only [Bool.and_eq_true] at hc
          simp only [mS, Bool.and_eq_true] at h1
          obtain ⟨l1, l2⟩ := lcl_ok o hc.2
          have hv : noComp v = true := by
            have z := hc.1
            unfold penB at z
            split at z
            · rfl
            · cases z
          exact pss_asgN (k := true) (by rw [o.N]; exact o.nd) l1 l2 (pen_ok o wo.wo tk h1.2 hc.1) (noComp_ok hv _ _ _) (mSsT_ok ss o bo wo tk h2)
        · rename_i t a z u p
          simp only [Bool.and_eq_true] at hc
          simp only [mS, Bool.and_eq_true] at h1
          exact pss_ifN (ptf_ok o wo.wo tk h1.1.2 hc.1) (mSs_ok a o bo wo tk h1.2.1) (stops_ok hc.2) (mSsT_ok ss o bo wo tk h2)
        · cases hc
      · exact pss_consE (mS_ok _ o bo wo tk h1) (mB_ok ss o bo wo tk h2)
    · cases h
end

/-! ### a def -/
structure FnD where
  n : Nat
  m : Nat
  body : Ss
def Out.cr : Out → CR
  | .nx _ => .ok (.val .non)
  | .rt c => .ok c
  | .ex x _ => .ex x
  | .no => .no
def startE (m : Nat) (ds : List D) : Env := ds.map (fun d => some (.val d)) ++ List.replicate (m - ds.length) none
/-- what the defs come to, so many calls deep -/
def Lv (T : Tb) (sb : Str → Str → Option Bool) (F : List (Str × FnD)) : Nat → Str → List D → CR
  | 0, _, _ => .no
  | n + 1, x, ds => match F.lookup x with
    | none => .no
    | some f => if ds.length = f.n then (xss (Lv T sb F n) T.xi sb f.body (startE f.m ds)).cr else .no
section
variable {K : PySem.W.Frag} {mg : Str → Option Value} {A : Av} {H : Hp}
theorem er_none : ∀ n : Nat, ER K mg A H (List.replicate n none) (List.replicate n none) []
  | 0 => ⟨rfl, rfl⟩
  | n + 1 => ⟨none, _, [], [], rfl, rfl, rfl, er_none n⟩
theorem er_start : ∀ {ds : List D} {vs : List V} {n : Nat}, VRs K mg A H ds vs → ER K mg A H (ds.map (fun d => some (.val d)) ++ List.replicate n none) (vs.map some ++ List.replicate n none) []
  | [], _, n, h => by
    obtain rfl : _ = [] := h
    exact er_none n
  | d :: ds, _, n, h => by
    obtain ⟨v, vs, rfl, r, rs⟩ := h
    exact ⟨some v, _, [], [], rfl, rfl, ⟨rfl, r⟩, er_start rs⟩
end
theorem XR.less {K : PySem.W.Frag} {mg : Str → Option Value} {A A' : Av} {H : Hp} {x : Exn} {cls : Value} {d : Option Addr} (h : XR K mg A x cls d H) (hA : ∀ p, A' p → A p) : XR K mg A' x cls d H := by
  obtain ⟨C, h1, h2, h3⟩ := h
  refine ⟨C, h1, h2, ?_⟩
  cases e : x.arg with
  | none => rw [e] at h3; exact h3
  | some p =>
    obtain ⟨f, z⟩ := p
    rw [e] at h3
    obtain ⟨hx, dd, v, e1, e2, e3⟩ := h3
    exact ⟨hx, dd, v, e1, e2, e3.evo ⟨fun _ _ q _ => q, fun b q => .inl (hA b q)⟩⟩
section
variable {P : Program} {w : World} {K : PySem.W.Frag} {mg : Str → Option Value} {base : Heap}
theorem fn_body {x qual : Str} {params : Arguments} {body : List Stmt} {scope : Scope} {f : Addr} {fd : FuncData} {N ps : List Str} {k : Nat} {T : Tb} {Γ : Str → List D → CR} {sb : Str → Str → Option Bool} {b : FnD} (F : FunD K x qual params body scope [] [] f fd) (S : FnScope N ps scope)
    (wo : WOk2 P w K mg base k T Γ sb) (hn : ps.length = b.n) (hm : N.length = b.m) (h : mB T b.body ⟨N, scope, fun _ => true⟩ body = true) :
    FnOk P w K mg base (L2.CX P w) (k + 1) f fd ps (spF K mg (fun ds => if ds.length = b.n then (xss Γ T.xi sb b.body (startE b.m ds)).cr else .no) b.n) := by
  refine F.ok S (fun vs H Q E hsp => ?_) fun cdv A outer s H vs Q E hr hsp => ?_
  · obtain ⟨R, ds, _, rs, hl, _⟩ := hsp
    rw [← rs.length, hl, hn]
  · have o : CtxOk (cxOf (L2.CX P w) P w K mg base N qual scope f cdv A outer s H E) k ⟨N, scope, fun _ => true⟩ := ⟨rfl, rfl, rfl, S.nd, rfl, hr⟩
    have bo : BodyOk (cxOf (L2.CX P w) P w K mg base N qual scope f cdv A outer s H E) := ⟨passes_of rfl, rfl, rfl⟩
    refine ⟨_, mB_ok (W := fun cls d _ H => E cls d H) b.body o bo wo (takes_of rfl rfl rfl rfl) h, ?_⟩
    obtain ⟨R, ds, lv, rs, hl, q⟩ := hsp
    dsimp only at q
    rw [if_pos hl] at q
    refine ⟨R, startE b.m ds, [], ⟨?_, List.nodup_nil, fun _ z => (nomatch z), lv⟩, ?_⟩
    · have e := er_start (n := b.m - ds.length) (rs.evo (A' := fun p => p ∈ ([] : List Addr) ∨ R p) ⟨fun _ _ q _ => q, fun b z => .inl (z.elim (fun y => nomatch y) id)⟩)
      unfold startE L2.start
      rw [hm, ← rs.length]
      exact e
    · show AimS (cxOf (L2.CX P w) P w K mg base N qual scope f cdv A outer s H E) (fun cls d _ H => E cls d H) R H [] { nx := fun _ H' => Q .non H', rt := Q } (xss Γ T.xi sb b.body (startE b.m ds))
      cases e : xss Γ T.xi sb b.body (startE b.m ds) with
      | no => rw [e] at q; exact q
      | nx ρ' =>
        rw [e] at q
        exact fun σ' H' F' rel st => q .non H' [] ⟨rfl, rfl⟩ List.nodup_nil (fun _ z => nomatch z) ⟨st.keep, st.live, fun _ z => nomatch z⟩
      | rt c =>
        rw [e] at q
        exact fun u H' Fc cr nd ap st => q u H' Fc cr nd ap st
      | ex x ρ' =>
        rw [e] at q
        exact fun σ' cls d H' F' rel xr st => q cls d H' (xr.less fun p z => .inr z) ⟨st.keep, st.live, fun _ z => nomatch z⟩
end
end Bw

set_option Elab.async false
set_option linter.all false
set_option maxRecDepth 100000
/-! Bw24: a module's defs, level by level; what the head must tell. -/
namespace Bw
open PySem PySem.Spec PyProof.Rows L2

/-! ### how a call's values are bound -/
theorem lookup_zip : ∀ {names : List Str} {us : List Value} (pre : List (Str × Value)), (∀ n ∈ names, ∀ p ∈ pre, p.1 ≠ n) → names.Nodup → us.length = names.length →
    names.filterMap (fun n => (List.lookup n (pre ++ names.zip us)).map fun x => (n, x)) = names.zip us
  | [], us, pre, _, _, _ => by simp
  | n :: names, u :: us, pre, hp, nd, hl => by
    have h1 : List.lookup n (pre ++ (n :: names).zip (u :: us)) = some u := by
      have h0 : List.lookup n pre = none := by
        rw [List.lookup_eq_none_iff]
        intro p hm
        have := hp n (by simp) p hm
        simpa [bne_iff_ne] using fun e => this e.symm
      rw [List.lookup_append, h0]
      simp
    rw [List.filterMap_cons, h1]
    simp only [Option.map_some]
    have e : pre ++ (n :: names).zip (u :: us) = (pre ++ [(n, u)]) ++ names.zip us := by simp
    rw [e]
    have := lookup_zip (names := names) (us := us) (pre ++ [(n, u)]) (fun m hm p hpm => by
      rcases List.mem_append.mp hpm with h | h
      · exact hp m (List.mem_cons_of_mem _ hm) p h
      · rw [List.mem_singleton.mp h]
        exact fun e => (List.nodup_cons.mp nd).1 (show n ∈ names from (show n = m from e) ▸ hm)) (List.nodup_cons.mp nd).2 (by simpa using hl)
    rw [this]
    rfl
  | _ :: _, [], _, _, _, hl => by simp at hl
theorem lookup_some {names : List Str} {us : List Value} (hl : us.length = names.length) : ∀ n ∈ names, (List.lookup n (names.zip us)).isNone = false := by
  induction names generalizing us with
  | nil => intro n hn; cases hn
  | cons m names ih =>
    cases us with
    | nil => simp at hl
    | cons u us =>
      intro n hn
      rw [List.zip_cons_cons, List.lookup_cons]
      split
      · rfl
      · rename_i h
        rcases List.mem_cons.mp hn with e | hn
        · rw [e] at h; simp at h
        · exact ih (by simpa using hl) n hn
theorem bind_ok {x q : Str} {as : List Arg} {body : List Stmt} {scope : Scope} {kV doc pm : Value} {an : Option Addr} {cdv ct : Value} {us : List Value} {kd : List (Option Expr)} {ds : List Expr} (nd : (as.map (·.arg)).Nodup) (hl : us.length = (as.map (·.arg)).length) :
  bindArgs (PySem.W.fnOf x q ⟨[], as, none, [], kd, none, ds⟩ body scope .none kV doc pm an cdv ct) ⟨us, []⟩ = pure ((as.map (·.arg)).zip us) := by
  have h1 := lookup_zip (names := as.map (·.arg)) (us := us) [] (fun _ _ _ z => nomatch z) nd hl
  have h2 := lookup_some hl
  have h3 : (as.map (·.arg)).filter (fun n => (List.lookup n ((as.map (·.arg)).zip us)).isNone) = [] := by
    rw [List.filter_eq_nil_iff]
    intro n hn
    rw [h2 n hn]
    simp
  rw [List.nil_append] at h1
  have e1 : (PySem.W.fnOf x q ⟨[], as, none, [], kd, none, ds⟩ body scope .none kV doc pm an cdv ct).params = ⟨[], as, none, [], kd, none, ds⟩ := rfl
  have e2 : (PySem.W.fnOf x q ⟨[], as, none, [], kd, none, ds⟩ body scope .none kV doc pm an cdv ct).defaults = .none := rfl
  unfold bindArgs
  rw [e1, e2]
  have h4 : seqItems? Value.none = pure none := rfl
  rw [h4]
  simp only [List.map_nil, List.nil_append, List.append_nil, List.forIn_nil, pure_bind, Option.getD_none, List.length_nil]
  rw [if_neg (by simp [hl])]
  simp only [List.drop_nil, List.length_nil, Nat.sub_zero, List.take_length, h3, List.isEmpty_nil, Bool.not_true, Bool.false_eq_true, if_false, List.drop_length, List.zip_nil_left, List.forIn_nil, pure_bind, h1]

/-! ### a module -/
structure FnR where
  x : Str
  ps : List Str
  N : List Str
  params : Arguments
  body : List Stmt
  scope : Scope
  b : FnD
def parB (ps : List Str) (a : Arguments) : Bool := match a with
  | ⟨[], as, none, [], _, none, _⟩ => decide (as.map (·.arg) = ps) && decide ((as.map (·.arg)).Nodup)
  | _ => false
def scB (N P : List Str) (sc : Scope) : Bool :=
  (match sc.kind with | .function => true | _ => false) && (!sc.isCoroutine && (!sc.isGenerator && (decide N.Nodup && (decide (N.take P.length = P) && (P.all (fun x => match sc.names.lookup x with
    | some .local => true
    | some .cell => true
    | _ => false) && sc.names.all fun y => match y.2 with
    | .free => false
    | _ => true)))))
theorem scB_ok {N P : List Str} {sc : Scope} (h : scB N P sc = true) : FnScope N P sc := by
  unfold scB at h
  simp only [Bool.and_eq_true, Bool.not_eq_true', decide_eq_true_eq, List.all_eq_true] at h
  obtain ⟨h1, h2, h3, h4, h5, h6, h7⟩ := h
  refine ⟨?_, h2, h3, h4, h5, fun x hx => ?_, fun y hy e => ?_⟩
  · split at h1
    · assumption
    · cases h1
  · have z := h6 x hx
    split at z
    · exact .inl (by assumption)
    · exact .inr (by assumption)
    · cases z
  · have z := h7 y hy
    rw [e] at z
    cases z
theorem parB_ok {ps : List Str} {a : Arguments} (h : parB ps a = true) {x q : Str} {body : List Stmt} {scope : Scope} (kV doc pm : Value) (an : Option Addr) (cdv ct : Value) (us : List Value) (hl : us.length = ps.length) :
    bindArgs (PySem.W.fnOf x q a body scope .none kV doc pm an cdv ct) ⟨us, []⟩ = pure (ps.zip us) := by
  unfold parB at h
  split at h
  · simp only [Bool.and_eq_true, decide_eq_true_eq] at h
    obtain ⟨rfl, h2⟩ := h
    exact bind_ok h2 hl
  · cases h
structure Md where
  T : Tb
  sub : List (Str × Str × Bool)
  R : List FnR
def Md.F (M : Md) : List (Str × FnD) := M.R.map fun r => (r.x, r.b)
def Md.sb (M : Md) : Str → Str → Option Bool := fun x y => (M.sub.find? fun t => decide (t.1 = x) && decide (t.2.1 = y)).map (·.2.2)
def FnR.good (T : Tb) (r : FnR) : Bool := scB r.N r.ps r.scope && (parB r.ps r.params && (decide (r.ps.length = r.b.n) && (decide (r.N.length = r.b.m) && mB T r.b.body ⟨r.N, r.scope, fun _ => true⟩ r.body)))
def Md.good (M : Md) : Bool := decide (M.T.fns = M.R.map fun r => (r.x, r.b.n)) && M.R.all (FnR.good M.T)
/-- what the head tells -/
structure Hf (P : Program) (w : World) (K : PySem.W.Frag) (mg : Str → Option Value) (base : Heap) (M : Md) : Prop where
  rows : ∀ r ∈ M.R, ∃ fd, FunD K r.x r.x r.params r.body r.scope [] [] (He.ga K r.x) fd ∧ mg r.x = some (.ref (He.ga K r.x))
  glb : ∀ x d, M.T.glb.lookup x = some d → ∃ u v, mg x = some u ∧ RelV v u ∧ ∀ A H, VR K mg A H d v
  blt : ∀ x ∈ M.T.blt, mg x = none
  exf : ∀ x f, M.T.exf.lookup x = some f → ExF P w K mg base 1 x f
  cls : ∀ x ∈ M.T.cls, ∃ C, mg x = some (.ref C)
  sub : SubOk K mg M.sb
section
variable {P : Program} {w : World} {K : PySem.W.Frag} {mg : Str → Option Value} {base : Heap} {M : Md}
theorem lookup_mem {α β : Type} (f : α → Str) (g : α → β) : ∀ {l : List α} {x : Str} {b : β}, (l.map fun r => (f r, g r)).lookup x = some b → ∃ r ∈ l, f r = x ∧ g r = b
  | [], _, _, h => by cases h
  | r :: l, x, b, h => by
    rw [List.map_cons, List.lookup_cons] at h
    split at h
    · rename_i e
      exact ⟨r, by simp, (beq_iff_eq.mp e).symm, Option.some.inj h⟩
    · obtain ⟨r', h1, h2⟩ := lookup_mem f g h
      exact ⟨r', List.mem_cons_of_mem _ h1, h2⟩
theorem lookup_two {α β γ : Type} (f : α → Str) (g : α → β) (k : β → γ) (l : List α) (x : Str) : (l.map fun r => (f r, k (g r))).lookup x = ((l.map fun r => (f r, g r)).lookup x).map k := by
  induction l with
  | nil => rfl
  | cons r l ih =>
    rw [List.map_cons, List.map_cons, List.lookup_cons, List.lookup_cons]
    split
    · rfl
    · exact ih
theorem Md.row (hg : M.good = true) {r : FnR} (hr : r ∈ M.R) : FnScope r.N r.ps r.scope ∧ parB r.ps r.params = true ∧ r.ps.length = r.b.n ∧ r.N.length = r.b.m ∧ mB M.T r.b.body ⟨r.N, r.scope, fun _ => true⟩ r.body = true := by
  unfold Md.good at hg
  simp only [Bool.and_eq_true, List.all_eq_true] at hg
  have z := hg.2 r hr
  unfold FnR.good at z
  simp only [Bool.and_eq_true, decide_eq_true_eq] at z
  exact ⟨scB_ok z.1, z.2.1, z.2.2.1, z.2.2.2.1, z.2.2.2.2⟩
theorem Md.fns (hg : M.good = true) : M.T.fns = M.R.map fun r => (r.x, r.b.n) := by
  unfold Md.good at hg
  simp only [Bool.and_eq_true, decide_eq_true_eq] at hg
  exact hg.1
/-- each def, so many calls deep -/
theorem Md.ok (hg : M.good = true) (hf : Hf P w K mg base M) : ∀ n, WOk2 P w K mg base (n + 2) M.T (Lv M.T M.sb M.F n) M.sb
  | 0 => ⟨⟨fun x m h => by
      rw [Md.fns hg] at h
      obtain ⟨r, hr, rfl, rfl⟩ := lookup_mem _ _ h
      obtain ⟨fd, F, e⟩ := hf.rows r hr
      obtain ⟨S, pb, h1, h2, h3⟩ := Md.row hg hr
      exact ⟨_, fd, r.ps, e, F.kp, F.bindsN fun kV doc pm an cdv ct us hl => parB_ok pb kV doc pm an cdv ct us hl, ⟨fun vs H Q E ⟨_, _, _, _, _, z⟩ => z.elim, fun _ _ _ _ _ _ _ _ _ _ _ _ _ ⟨_, _, _, _, _, z⟩ => z.elim⟩⟩,
      fun x ds h => absurd rfl h, hf.glb, hf.blt⟩, Nat.le_refl 2, hf.exf, hf.cls, hf.sub⟩
  | n + 1 => by
    have ih := Md.ok hg hf n
    refine ⟨⟨fun x m h => ?_, fun x ds h => ?_, hf.glb, hf.blt⟩, by omega, hf.exf, hf.cls, hf.sub⟩
    · have h0 := h
      rw [Md.fns hg, lookup_two (fun r : FnR => r.x) (fun r => r.b) (fun b => b.n)] at h
      cases e : (M.R.map fun r => (r.x, r.b)).lookup x with
      | none => rw [e] at h; cases h
      | some b =>
        rw [e] at h
        have hm : b.n = m := Option.some.inj h
        obtain ⟨r, hr, rfl, rfl⟩ := lookup_mem (fun r : FnR => r.x) (fun r => r.b) e
        obtain ⟨fd, F, e1⟩ := hf.rows r hr
        obtain ⟨S, pb, h1, h2, h3⟩ := Md.row hg hr
        have q := fn_body F S ih h1 h2 h3
        subst hm
        have eL : Lv M.T M.sb M.F (n + 1) r.x = fun ds => if ds.length = r.b.n then (xss (Lv M.T M.sb M.F n) M.T.xi M.sb r.b.body (startE r.b.m ds)).cr else .no := by
          funext ds
          show (match M.F.lookup r.x with
            | none => CR.no
            | some f => if ds.length = f.n then (xss (Lv M.T M.sb M.F n) M.T.xi M.sb f.body (startE f.m ds)).cr else .no) = _
          rw [show M.F.lookup r.x = some r.b from e]
        rw [eL]
        exact ⟨_, fd, r.ps, e1, F.kp, F.bindsN fun kV doc pm an cdv ct us hl => parB_ok pb kV doc pm an cdv ct us hl, q⟩
    · rw [Md.fns hg, lookup_two (fun r : FnR => r.x) (fun r => r.b) (fun b => b.n)]
      have h : (match M.F.lookup x with
            | none => CR.no
            | some f => if ds.length = f.n then (xss (Lv M.T M.sb M.F n) M.T.xi M.sb f.body (startE f.m ds)).cr else .no) ≠ .no := h
      cases e : M.F.lookup x with
      | none => rw [e] at h; exact absurd rfl h
      | some b =>
        rw [e] at h
        rw [show (M.R.map fun r => (r.x, r.b)).lookup x = some b from e]
        by_cases hl : ds.length = b.n
        · rw [hl]
          rfl
        · simp only [if_neg hl] at h
          exact absurd rfl h
end
end Bw

set_option Elab.async false
set_option linter.all false
set_option maxRecDepth 100000
/-! Bw25: what the head must tell, as one look at a part of the heap. -/
namespace Bw
open PySem PySem.Spec PyProof.Rows L2

/-! ### exception classes with a field -/
def oexB (K : PySem.W.Frag) (C : Addr) : Bool := (match K.lookup C with
  | some ⟨.type "type", _, .cls cd, sl⟩ => (match cd.mro, sl.toList with
    | .ref C' :: bm, [_, _, _, _, some (.builtin n), _] => C' == C && (n == "ValueError.__new__" && (!cd.hasDel && (cd.hasDict && PySem.HandSPX.refsVE bm)))
    | _, _ => false)
  | _ => false) && (decide (PySem.W.findIn K (.ref C) "__setattr__" = some (some (.builtin "object.__setattr__"))) && (decide (PySem.W.subIn K (.ref C) (.type "BaseException") = some true) && (decide (PySem.W.typeIn K (.ref C) = some (.type "type")) && PySem.W.keepIn K (.ref C))))
theorem oexB_ok {K : PySem.W.Frag} {C : Addr} (h : oexB K C = true) : OexC K C := by
  unfold oexB at h
  simp only [Bool.and_eq_true, decide_eq_true_eq] at h
  obtain ⟨h0, h1, h2, h3, h4⟩ := h
  refine ⟨?_, h1, h2, h3, h4⟩
  split at h0
  · rename_i dd cd sl ho
    split at h0
    · rename_i C' bm k0 k1 k2 k3 n k5 hm hs
      simp only [Bool.and_eq_true, beq_iff_eq, Bool.not_eq_true'] at h0
      obtain ⟨rfl, rfl, hdel, hdict, hr⟩ := h0
      obtain ⟨nm, bs, mro, ns, qn, hd, sn, sub, ab, col, del⟩ := cd
      dsimp only at hm hdel hdict hr
      subst hm hdel hdict
      have hsl : sl = #[k0, k1, k2, k3, some (.builtin "ValueError.__new__"), k5] := by
        obtain ⟨l⟩ := sl
        simp only at hs
        rw [hs]
      subst hsl
      exact ⟨nm, qn, ns, bs, bm, sn, sub, ab, col, dd, k0, k1, k2, k3, k5, ho, hr⟩
    · cases h0
  · cases h0
/-- def __init__(self, y): self.f = y -/
structure XcR where
  x : Str
  f : Str
  s : Str
  y : Str
  params : Arguments
  body : List Stmt
  scope : Scope
def XcR.qual (r : XcR) : Str := r.x ++ (".__init__" : Str)
def iniB (r : XcR) : Bool := (match r.body with
  | [.Assign [.Attribute (.Name a _) g _] (.Name b _) _] => decide (a = r.s) && (decide (b = r.y) && decide (g = r.f))
  | _ => false) && (scB [r.s, r.y] [r.s, r.y] r.scope && (parB [r.s, r.y] r.params && ((ndb r.s && ndb r.y) && (visB r.scope r.s && visB r.scope r.y))))
def xcB (K : PySem.W.Frag) (r : XcR) : Bool := oexB K (He.ga K r.x) && (xfB K (He.ga K r.x) && (decide (PySem.W.findIn K (.ref (He.ga K r.x)) r.f = some none) && (decide (PySem.W.findIn K (.ref (He.ga K r.x)) "__init__" = some (some (.ref (He.ma K (He.ga K r.x) "__init__")))) &&
  decide (PySem.W.typeIn K (.ref (He.ma K (He.ga K r.x) "__init__")) = some (.type "function")))))
section
variable {P : Program} {w : World} {K : PySem.W.Frag} {mg : Str → Option Value} {base : Heap}
theorem init_ok {C fI : Addr} {fd : FuncData} {r : XcR} (F : FunD K "__init__" r.qual r.params r.body r.scope [] [] fI fd) (h : iniB r = true) (T : OexC K C) (hno : PySem.W.findIn K (.ref C) r.f = some none) :
    FnOk P w K mg base (L2.CX P w) 1 fI fd [r.s, r.y] (spI r.f C) ∧ Binds K fd [r.s, r.y] [] := by
  unfold iniB at h
  simp only [Bool.and_eq_true] at h
  obtain ⟨h0, h1, h2, ⟨h3, h4⟩, h5, h6⟩ := h
  have S := scB_ok h1
  refine ⟨F.ok S (fun vs H Q E ⟨a, x, e, _⟩ => by rw [e]; rfl) fun cdv A outer s H vs Q E hr hsp => ?_, F.bindsN fun kV doc pm an cdv ct us hl => parB_ok h2 kV doc pm an cdv ct us hl⟩
  simp only [ndb, Bool.and_eq_true, Bool.not_eq_true'] at h3 h4
  split at h0
  · rename_i a p1 g p2 b p3 p4 hbd
    simp only [Bool.and_eq_true, decide_eq_true_eq] at h0
    obtain ⟨e1, e2, e3⟩ := h0
    subst e1
    subst e2
    rw [hbd]
    refine ⟨_, pss_one (ps_ost (pe_var (i := 0) rfl (visB_ok h5) h3.1 h3.2) (pe_var (i := 1) rfl (visB_ok h6) h4.1 h4.2) rfl), ?_⟩
    obtain ⟨a, x, rfl, ha, q⟩ := hsp
    refine ⟨x, rfl, .ref a, rfl, a, C, rfl, T, ?_, .inl ⟨ha, fun dx n ne => ?_⟩⟩
    · rw [e3]; exact hno
    · rw [e3]; exact q dx n ne
  · cases h0
theorem exf_ok {h : Heap} (X : K.In h) (G : h.Ns mainGlobals mg) {fd : FuncData} {r : XcR} (hg : (He.Fa.glo r.x).ok K = true) (F : FunD K "__init__" r.qual r.params r.body r.scope [] [] (He.fAd K (r.x, some "__init__")) fd) (hi : iniB r = true) (hx : xcB K r = true) : ExF P w K mg base 1 r.x r.f := by
  unfold xcB at hx
  simp only [Bool.and_eq_true, decide_eq_true_eq] at hx
  obtain ⟨h1, h2, h3, h4, h5⟩ := hx
  have T := oexB_ok h1
  obtain ⟨Fn, hb⟩ := init_ok (P := P) (w := w) (mg := mg) (base := base) F hi T h3
  exact ⟨He.ga K r.x, He.ma K (He.ga K r.x) "__init__", fd, [r.s, r.y], He.glo_ok X G hg, T, h4, h5, Fn, hb, xfB_ok h2, h3⟩
end

/-! ### the module's values -/
mutual
/-- u stands for d in K -/
def dvB (K : PySem.W.Frag) : D → Value → Bool
  | .non, u => match u with | .none => true | _ => false
  | .bl a, u => match u with | .bool b => a == b | _ => false
  | .int a, u => match u with | .int b _ => decide (a = b) | _ => false
  | .str l, u => match u with | .str s _ => decide (s.cps.toList = l) && (decide (l.length ≤ LIM) && l.all fun c => decide (c < 0x110000)) | _ => false
  | .tup ds, u => match u with
    | .ref a => (match K.lookup a with
      | some ⟨.type c, _, .seq its _, _⟩ => decide (c = "tuple") && (decide (its.size ≤ LIM) && dvsB K ds its.toList)
      | _ => false)
    | _ => false
  | .fn x, u => match u with
    | .ref a => decide (a = He.ga K x) && (PySem.W.keepIn K (.ref a) && (He.Fa.glo x).ok K)
    | _ => false
  | .ty n, u => match u with | .type m => decide (n = m) | _ => false
  | _, _ => false
def dvsB (K : PySem.W.Frag) : List D → List Value → Bool
  | [], us => match us with | [] => true | _ => false
  | d :: ds, us => match us with | u :: us => dvB K d u && dvsB K ds us | _ => false
end
section
variable {K : PySem.W.Frag} {mg : Str → Option Value} {h : Heap}
mutual
theorem dvB_ok (X : K.In h) (G : h.Ns mainGlobals mg) : ∀ {d : D} {u : Value}, dvB K d u = true → ∃ v, RelV v u ∧ ∀ A H, VR K mg A H d v
  | .non, u, e => by
    simp only [dvB] at e
    split at e
    · exact ⟨.non, rfl, fun _ _ => rfl⟩
    · cases e
  | .bl a, u, e => by
    simp only [dvB] at e
    split at e
    · exact ⟨.bl a, by rw [eq_of_beq e]; rfl, fun _ _ => rfl⟩
    · cases e
  | .int a, u, e => by
    simp only [dvB] at e
    split at e
    · exact ⟨.int a, ⟨_, by rw [of_decide_eq_true e]⟩, fun _ _ => rfl⟩
    · cases e
  | .str l, u, e => by
    simp only [dvB] at e
    split at e
    · rename_i s t
      simp only [Bool.and_eq_true, decide_eq_true_eq] at e
      obtain ⟨rfl, h2, h3⟩ := e
      refine ⟨.str s, ⟨t, rfl⟩, fun _ _ => ⟨?_, h2, fun c hc => of_decide_eq_true (List.all_eq_true.mp h3 c hc)⟩⟩
      rw [TL.mk_tl]
    · cases e
  | .tup ds, u, e => by
    simp only [dvB] at e
    split at e
    · rename_i a
      split at e
      · rename_i c od its n osl hl
        simp only [Bool.and_eq_true, decide_eq_true_eq] at e
        obtain ⟨rfl, h2, h3⟩ := e
        obtain ⟨ws, hv, hr⟩ := dvsB_ok X G h3
        exact ⟨.ref a, rfl, fun A H => ⟨a, ws, rfl, .inr ⟨_, its, n, hl, rfl, rfl, by rw [lim_eq]; exact h2, hv⟩, hr A H⟩⟩
      · cases e
    · cases e
  | .fn x, u, e => by
    simp only [dvB] at e
    split at e
    · rename_i a
      simp only [Bool.and_eq_true, decide_eq_true_eq] at e
      obtain ⟨rfl, h2, h3⟩ := e
      exact ⟨.ref (He.ga K x), rfl, fun _ _ => ⟨He.ga K x, rfl, He.glo_ok X G h3, h2⟩⟩
    · cases e
  | .ty n, u, e => by
    simp only [dvB] at e
    split at e
    · exact ⟨.ty n, by rw [of_decide_eq_true e]; rfl, fun _ _ => rfl⟩
    · cases e
  | .lst _, u, e => by simp only [dvB] at e; cases e
  | .scr _, u, e => by simp only [dvB] at e; cases e
theorem dvsB_ok (X : K.In h) (G : h.Ns mainGlobals mg) : ∀ {ds : List D} {us : List Value}, dvsB K ds us = true → ∃ ws, Vals ws us ∧ ∀ A H, VRs K mg A H ds ws
  | [], us, e => by
    simp only [dvsB] at e
    split at e
    · exact ⟨[], .nil, fun _ _ => rfl⟩
    · cases e
  | d :: ds, us, e => by
    simp only [dvsB] at e
    split at e
    · simp only [Bool.and_eq_true] at e
      obtain ⟨v, h1, h2⟩ := dvB_ok X G e.1
      obtain ⟨ws, h3, h4⟩ := dvsB_ok X G e.2
      exact ⟨v :: ws, .cons h1 h3, fun A H => VRs.cons (h2 A H) (h4 A H)⟩
    · cases e
end
end
def glbB (K : PySem.W.Frag) (p : Str × D) : Bool := match PySem.W.nsIn K mainGlobals p.1 with
  | some (some u) => dvB K p.2 u
  | _ => false
theorem glbB_ok {K : PySem.W.Frag} {mg : Str → Option Value} {h : Heap} (X : K.In h) (G : h.Ns mainGlobals mg) {p : Str × D} (e : glbB K p = true) : ∃ u v, mg p.1 = some u ∧ RelV v u ∧ ∀ A H, VR K mg A H p.2 v := by
  unfold glbB at e
  split at e
  · rename_i u hu
    obtain ⟨v, h1, h2⟩ := dvB_ok X G e
    exact ⟨u, v, PySem.W.mg_of X G hu, h1, h2⟩
  · cases e
/-! ### the look -/
def FnR.dd (r : FnR) : He.DefD := ⟨(r.x, none), r.x, r.x, r.params, r.body, r.scope, [], []⟩
def XcR.dd (r : XcR) : He.DefD := ⟨(r.x, some "__init__"), "__init__", r.qual, r.params, r.body, r.scope, [], []⟩
def hdFn (M : Md) (xc : List XcR) : List He.DefD := M.R.map FnR.dd ++ xc.map XcR.dd
def chk (M : Md) (xc : List XcR) (K : PySem.W.Frag) : Bool :=
  (M.R.all (fun r => (He.Fa.glo r.x).ok K) && (xc.all (fun r => (He.Fa.glo r.x).ok K && xcB K r) && (M.T.blt.all (fun x => (He.Fa.free x).ok K) && (M.T.cls.all (fun x => (He.Fa.glo x).ok K) &&
    (M.T.glb.all (glbB K) && M.sub.all fun t => (He.Fa.glo t.2.1).ok K && (He.Fa.glo t.1).ok K && (He.Fa.exm t.1 t.2.1 t.2.2).ok K)))))
def obsB (M : Md) (xc : List XcR) (K : PySem.W.Frag) : He.AlD := (chk M xc K && (hdFn M xc).all fun d => d.ok K, (hdFn M xc).map fun d => He.fnW K d.at_)
def SaysB (M : Md) (xc : List XcR) (K : PySem.W.Frag) : Prop := obsB M xc K = He.valD (hdFn M xc)
def obsBG (n : Nat) (M : Md) (xc : List XcR) (g : Addr → Option Obj) : He.AlD := obsB M xc (He.frG g (He.asD g n))
def hookB (n : Nat) (M : Md) (xc : List XcR) : PySem.W.Hook where
  α := He.AlD
  obs := fun s => obsBG n M xc s.heap.get?
  val := fun _ => He.valD (hdFn M xc)
  says := fun _ h => ∃ K : PySem.W.Frag, K.In h ∧ SaysB M xc K
  of := fun _ _ e => ⟨_, He.frG_in, e⟩
  keeps := fun _ _ _ ⟨K, hK, c⟩ k => ⟨K, PySem.W.Frag.In.keeps hK k, c⟩
theorem obsBG_eq {n : Nat} {M : Md} {xc : List XcR} {g : Addr → Option Obj} {s : Shared} (h : ∀ a, g a = s.heap.get? a) : obsBG n M xc g = (hookB n M xc).obs s := by
  have e : g = s.heap.get? := funext h
  rw [e] <;> rfl
section
variable {M : Md} {xc : List XcR} {K : PySem.W.Frag} {mg : Str → Option Value} {h base : Heap} {P : Program} {w : World}
theorem SaysB.chk (c : SaysB M xc K) : Bw.chk M xc K = true := (He.ba (show (Bw.chk M xc K && (hdFn M xc).all fun d => d.ok K) = true from congrArg (fun z : He.AlD => z.1) c)).1
theorem SaysB.def_ (c : SaysB M xc K) {d : He.DefD} (hd : d ∈ hdFn M xc) : ∃ fd, FunD K d.name d.qual d.params d.body d.scope (d.dvs K) (d.kws K) (He.fAd K d.at_) fd := by
  have c2 := (He.ba (show (Bw.chk M xc K && (hdFn M xc).all fun d => d.ok K) = true from congrArg (fun z : He.AlD => z.1) c)).2
  have e : (hdFn M xc).map (fun d => He.fnW K d.at_) = (hdFn M xc).map He.DefD.val := congrArg (fun z : He.AlD => z.2) c
  have e2 : He.fnW K d.at_ = d.val := by
    have key : ∀ l : List He.DefD, l.map (fun d => He.fnW K d.at_) = l.map He.DefD.val → ∀ d ∈ l, He.fnW K d.at_ = d.val := by
      intro l
      induction l with
      | nil => intro _ d hd; cases hd
      | cons a l ih =>
        intro e d hd
        rw [List.map_cons, List.map_cons] at e
        injection e with e1 e2
        rcases List.mem_cons.mp hd with rfl | hd
        · exact e1
        · exact ih e2 d hd
    exact key _ e d hd
  exact He.DefD.funD e2 (List.all_eq_true.mp c2 d hd)
theorem SaysB.hf (c : SaysB M xc K) (X : K.In h) (G : h.Ns mainGlobals mg) (hx : M.T.exf = xc.map fun r => (r.x, r.f)) (hi : xc.all iniB = true) : Hf P w K mg base M := by
  have k := c.chk
  unfold Bw.chk at k
  simp only [Bool.and_eq_true, List.all_eq_true] at k
  obtain ⟨k1, k2, k3, k4, k5, k6⟩ := k
  refine ⟨fun r hr => ?_, fun x d e => ?_, fun x hx => He.free_ok X G (k3 x hx), fun x f e => ?_, fun x hx => ⟨_, He.glo_ok X G (k4 x hx)⟩, ⟨fun x y b e => ?_⟩⟩
  · obtain ⟨fd, F⟩ := c.def_ (d := r.dd) (List.mem_append_left _ (List.mem_map_of_mem hr))
    exact ⟨fd, F, He.glo_ok X G (k1 r hr)⟩
  · have hm : (x, d) ∈ M.T.glb := PySem.mem_of_lookup e
    exact glbB_ok X G (k5 _ hm)
  · rw [hx] at e
    obtain ⟨r, hr, rfl, rfl⟩ := lookup_mem (fun r : XcR => r.x) (fun r => r.f) e
    obtain ⟨fd, F⟩ := c.def_ (d := r.dd) (List.mem_append_right _ (List.mem_map_of_mem hr))
    exact exf_ok X G (k2 r hr).1 F (List.all_eq_true.mp hi r hr) (k2 r hr).2
  · unfold Md.sb at e
    cases q : M.sub.find? fun t => decide (t.1 = x) && decide (t.2.1 = y) with
    | none => rw [q] at e; cases e
    | some t =>
      rw [q] at e
      cases e
      have hm := List.mem_of_find?_eq_some q
      have hp := List.find?_some q
      simp only [Bool.and_eq_true, decide_eq_true_eq] at hp
      obtain ⟨rfl, rfl⟩ := hp
      obtain ⟨⟨g1, g2⟩, g3⟩ := k6 t hm
      refine ⟨He.ga K t.2.1, He.glo_ok X G g1, fun B hB => ?_⟩
      rw [He.glo_ok X G g2] at hB
      cases hB
      exact of_decide_eq_true g3
end
end Bw

set_option Elab.async false
set_option linter.all false
set_option maxRecDepth 100000
/-! Bw26: a law's end. -/
namespace Bw
open PySem PySem.Spec PyProof.Rows L2

theorem cx_none {P : Program} {w : World} {outer : List PySem.Env} {H : Hp} {s : Shared} {e : Value} {s' : Shared} (h : L2.CX P w outer H s (fun _ _ _ => False) e s') : False := by
  obtain ⟨_, _, _, _, _, _, _, _, _, _, _, _, z⟩ := h
  exact z
theorem walk_law {l : PySem.W.OpenLaw} {k nn : Nat} {q : Program} {loose : List Str} {XP : (Str → Option Value) → Heap → Prop} {d : DefRec} {M : Md} {xc : List XcR} {r : FnR}
    (hn : l.most = some 63) (hdf : d.params.defaults = []) (hr : Room (k + 3) callerA) (hg : M.good = true) (hi : xc.all iniB = true) (hx : M.T.exf = xc.map fun r => (r.x, r.f)) (hm : r ∈ M.R) (hu : M.F.lookup r.x = some r.b) (hd : d.name = r.x) (hp : r.ps = [("script" : Str)])
    (law : ∀ ns : List Int, ns.length ≤ 63 → Lv M.T M.sb M.F (k + 1) r.x [.scr ns] = .ok (.val (.bl true))) :
    PySem.W.WalkO q loose XP (hookB nn M xc).says l.row.toRowW d [] (fun f vs => PySem.call f vs) := by
  refine Att.attach_call hn hdf fun w s₀ s₁ mg mb fa o pm cd doc a vs ns G Y ho hd2 hcd hmg hobj hints hlen hgl => ?_
  obtain ⟨K, KX, c⟩ := Y
  have hS : FnScope r.N r.ps r.scope ∧ parB r.ps r.params = true ∧ r.ps.length = r.b.n ∧ r.N.length = r.b.m ∧ mB M.T r.b.body ⟨r.N, r.scope, fun _ => true⟩ r.body = true := Md.row hg hm
  obtain ⟨S, pb, h1, h2, h3⟩ := hS
  have hf0 : Hf l.prog w K mg s₀.heap M := c.hf KX G.T.g hx hi
  obtain ⟨fd, F, e1⟩ := hf0.rows r hm
  rw [hd] at hmg
  rw [e1] at hmg
  cases hmg
  have hps : r.b.n = 1 := by rw [← h1, hp]; rfl
  have b := FunD.bindsA (ps := r.ps) F fun kV doc pm an cdv ct us hl => parB_ok pb kV doc pm an cdv ct us hl
  refine law_call (fd := fd) (CX := L2.CX l.prog w) (k := k + 3) (x := "script") (sp := spF K mg (Lv M.T M.sb M.F (k + 1) r.x) r.b.n) KX G.T.g G.T.b G.T.builtins G.T.nolimit hgl hobj hints (Nat.le_trans hlen (by decide)) hr (fun base hK hN => ?_) (fun s u => ?_) (fun H hO hS => ?_) fun H e s' => cx_none
  · have hf : Hf l.prog w K mg base M := c.hf hK hN hx hi
    have q := fn_body F S (Md.ok hg hf k) h1 h2 h3
    rw [hp] at q
    have eL : Lv M.T M.sb M.F (k + 1) r.x = fun ds => if ds.length = r.b.n then (xss (Lv M.T M.sb M.F k) M.T.xi M.sb r.b.body (startE r.b.m ds)).cr else .no := by
      funext ds
      show (match M.F.lookup r.x with
        | none => CR.no
        | some f => if ds.length = f.n then (xss (Lv M.T M.sb M.F k) M.T.xi M.sb f.body (startE f.m ds)).cr else .no) = _
      rw [hu]
    rw [eL]
    exact q
  · have z := b s [u] (by rw [hp]; rfl)
    rw [hp] at z
    exact z
  · refine ⟨fun _ => False, [.scr ns], fun _ z => z.elim, ⟨_, _, rfl, ⟨a, rfl, ?_⟩, rfl⟩, by rw [hps]; rfl, ?_⟩
    · rcases hS with h | h
      · exact .inl ⟨h, id⟩
      · exact .inr h
    · rw [law ns hlen]
      intro u H' Fc cr _ _ _
      exact cr.2
end Bw

set_option Elab.async false
set_option linter.all false
set_option maxRecDepth 100000
/-! Bw27: how the small language is reckoned by hand. -/
namespace Bw
open PySem

theorem rbind_ok {α β : Type} (a : α) (ρ : Env) (f : α → Env → Res β) : (Res.ok a ρ).bind f = f a ρ := rfl
theorem rbind_ex {α β : Type} (x : Exn) (ρ : Env) (f : α → Env → Res β) : (Res.ex x ρ : Res α).bind f = .ex x ρ := rfl
theorem out_ok {α : Type} (a : α) (ρ : Env) (f : α → Env → Out) : (Res.ok a ρ).out f = f a ρ := rfl
theorem out_ex {α : Type} (x : Exn) (ρ : Env) (f : α → Env → Out) : (Res.ex x ρ : Res α).out f = .ex x ρ := rfl
theorem then_nx (ρ : Env) (f : Env → Out) : (Out.nx ρ).andThen f = f ρ := rfl
theorem then_rt (c : Cell) (f : Env → Out) : (Out.rt c).andThen f = .rt c := rfl
theorem then_ex (x : Exn) (ρ : Env) (f : Env → Out) : (Out.ex x ρ).andThen f = .ex x ρ := rfl
theorem of_some {α : Type} (a : α) (ρ : Env) : Res.of (some a) ρ = .ok a ρ := rfl
theorem frz_val (d : D) : (Cell.val d).frz = d := rfl
theorem frz_own (ds : List D) : (Cell.own ds).frz = .lst ds := rfl
theorem cr_nx (ρ : Env) : (Out.nx ρ).cr = .ok (.val .non) := rfl
theorem cr_rt (c : Cell) : (Out.rt c).cr = .ok c := rfl
theorem cr_ex (x : Exn) (ρ : Env) : (Out.ex x ρ).cr = .ex x := rfl
theorem get_zero (x : Option Cell) (ρ : Env) : Env.get (x :: ρ) 0 = x := by cases x <;> rfl
theorem get_succ (x : Option Cell) (ρ : Env) (i : Nat) : Env.get (x :: ρ) (i + 1) = Env.get ρ i := rfl
theorem Lv_eq {M : Md} {x : Str} {b : FnD} {ds : List D} {n : Nat} (h : M.F.lookup x = some b) (hl : ds.length = b.n) : Lv M.T M.sb M.F (n + 1) x ds = (xss (Lv M.T M.sb M.F n) M.T.xi M.sb b.body (startE b.m ds)).cr := by
  show (match M.F.lookup x with
    | none => CR.no
    | some f => if ds.length = f.n then (xss (Lv M.T M.sb M.F n) M.T.xi M.sb f.body (startE f.m ds)).cr else .no) = _
  rw [h]
  exact if_pos hl
section
variable {Γ : Str → List D → CR} {Ξ : Str → List D → Option Exn} {sb : Str → Str → Option Bool}
theorem ev_cst {d} {ρ : Env} : ev Γ (.cst d) ρ = .ok (.val d) ρ := by first | rfl | (simp only [ev]; done)
theorem ev_var {i} {ρ : Env} : ev Γ (.var i) ρ = match ρ.get i with
    | some (.val d) => .ok (.val d) ρ
    | _ => .no := by first | rfl | (simp only [ev]; done)
theorem ev_take {i} {ρ : Env} : ev Γ (.take i) ρ = match ρ.get i with
    | some c => .ok c (ρ.put i none)
    | none => .no := by first | rfl | (simp only [ev]; done)
theorem ev_fz {i} {ρ : Env} : ev Γ (.fz i) ρ = match ρ.get i with
    | some c => .ok (.val c.frz) (ρ.put i (some (.val c.frz)))
    | none => .no := by first | rfl | (simp only [ev]; done)
theorem ev_glb {u1} {d} {ρ : Env} : ev Γ (.glb u1 d) ρ = .ok (.val d) ρ := by first | rfl | (simp only [ev]; done)
theorem ev_tup {es} {ρ : Env} : ev Γ (.tup es) ρ = (evs Γ es ρ).bind fun ds ρ => if ds.length ≤ LIM then .ok (.val (.tup ds)) ρ else .no := by first | rfl | (simp only [ev]; done)
theorem ev_lst {es} {ρ : Env} : ev Γ (.lst es) ρ = (evs Γ es ρ).bind fun ds ρ => if ds.length ≤ LIM then .ok (.own ds) ρ else .no := by first | rfl | (simp only [ev]; done)
theorem ev_bin {o} {a} {b} {ρ : Env} : ev Γ (.bin o a b) ρ = (ev Γ a ρ).bind fun x ρ => (ev Γ b ρ).bind fun y ρ => .of (o.run x.frz y.frz) ρ := by first | rfl | (simp only [ev]; done)
theorem ev_neg {a} {ρ : Env} : ev Γ (.neg a) ρ = (ev Γ a ρ).bind fun x ρ => match x.frz with
    | .int i => .ok (.val (.int (-i))) ρ
    | _ => .no := by first | rfl | (simp only [ev]; done)
theorem ev_not {a} {ρ : Env} : ev Γ (.not a) ρ = (ev Γ a ρ).bind fun x ρ => .of (x.frz.truth.map fun b => .val (.bl (!b))) ρ := by first | rfl | (simp only [ev]; done)
theorem ev_and {a} {b} {ρ : Env} : ev Γ (.and a b) ρ = (ev Γ a ρ).bind fun x ρ => match x.frz.truth with
    | some true => ev Γ b ρ
    | some false => .ok (.val x.frz) ρ
    | none => .no := by first | rfl | (simp only [ev]; done)
theorem ev_or {a} {b} {ρ : Env} : ev Γ (.or a b) ρ = (ev Γ a ρ).bind fun x ρ => match x.frz.truth with
    | some true => .ok (.val x.frz) ρ
    | some false => ev Γ b ρ
    | none => .no := by first | rfl | (simp only [ev]; done)
theorem ev_ite {c} {a} {b} {ρ : Env} : ev Γ (.ite c a b) ρ = (ev Γ c ρ).bind fun x ρ => match x.frz.truth with
    | some true => ev Γ a ρ
    | some false => ev Γ b ρ
    | none => .no := by first | rfl | (simp only [ev]; done)
theorem ev_cmp {o} {a} {b} {ρ : Env} : ev Γ (.cmp o a b) ρ = (ev Γ a ρ).bind fun x ρ => (ev Γ b ρ).bind fun y ρ => .of ((o.run x.frz y.frz).map fun k => .val (.bl k)) ρ := by first | rfl | (simp only [ev]; done)
theorem ev_cmp2 {o} {p} {a} {b} {c} {ρ : Env} : ev Γ (.cmp2 o p a b c) ρ = (ev Γ a ρ).bind fun x ρ => (ev Γ b ρ).bind fun y ρ => match o.runI x.frz y.frz with
    | some true => (ev Γ c ρ).bind fun z ρ => .of ((p.runI y.frz z.frz).map fun k => .val (.bl k)) ρ
    | some false => .ok (.val (.bl false)) ρ
    | none => .no := by first | rfl | (simp only [ev]; done)
theorem ev_idx {a} {i} {ρ : Env} : ev Γ (.idx a i) ρ = (ev Γ a ρ).bind fun x ρ => (ev Γ i ρ).bind fun y ρ => .of ((x.frz.idx y.frz).map .val) ρ := by first | rfl | (simp only [ev]; done)
theorem ev_slc {a} {lo} {hi} {ρ : Env} : ev Γ (.slc a lo hi) ρ = (ev Γ a ρ).bind fun x ρ => (evo Γ lo ρ).bind fun l ρ => (evo Γ hi ρ).bind fun h ρ => .of (x.frz.slc l h) ρ := by first | rfl | (simp only [ev]; done)
theorem ev_call {f} {es} {ρ : Env} : ev Γ (.call f es) ρ = (evs Γ es ρ).bind fun ds ρ => match Γ f ds with
    | .ok c => .ok c ρ
    | .ex x => .ex x ρ
    | .no => .no := by first | rfl | (simp only [ev]; done)
theorem ev_callv {f} {es} {ρ : Env} : ev Γ (.callv f es) ρ = (ev Γ f ρ).bind fun x ρ => match x.frz with
    | .fn g => (evs Γ es ρ).bind fun ds ρ => match Γ g ds with
      | .ok c => .ok c ρ
      | .ex x => .ex x ρ
      | .no => .no
    | _ => .no := by first | rfl | (simp only [ev]; done)
theorem ev_bi {b} {es} {ρ : Env} : ev Γ (.bi b es) ρ = (evs Γ es ρ).bind fun ds ρ => .of (b.run ds) ρ := by first | rfl | (simp only [ev]; done)
theorem ev_biP {b} {i} {ρ : Env} : ev Γ (.biP b i) ρ = match ρ.get i with
    | some c => .of (b.run [c.frz]) ρ
    | none => .no := by first | rfl | (simp only [ev]; done)
theorem ev_mt {m} {r} {es} {ρ : Env} : ev Γ (.mt m r es) ρ = (ev Γ r ρ).bind fun x ρ => match x.frz with
    | .str a => (evs Γ es ρ).bind fun ds ρ => .of (m.run (.str a) ds) ρ
    | _ => .no := by first | rfl | (simp only [ev]; done)
theorem ev_mtP {m} {r} {i} {ρ : Env} : ev Γ (.mtP m r i) ρ = (ev Γ r ρ).bind fun x ρ => match x.frz with
    | .str a => (match ρ.get i with
      | some c => .of (m.run (.str a) [c.frz]) ρ
      | none => .no)
    | _ => .no := by first | rfl | (simp only [ev]; done)
theorem ev_isi {a} {n} {ρ : Env} : ev Γ (.isi a n) ρ = (ev Γ a ρ).bind fun x ρ => .of ((x.frz.typ.bind fun t => L2.kitB t n).map fun k => .val (.bl k)) ρ := by first | rfl | (simp only [ev]; done)
theorem evs_nil  {ρ : Env} : evs Γ (.nil) ρ = .ok [] ρ := by first | rfl | (simp only [evs]; done)
theorem evs_cons {e} {es} {ρ : Env} : evs Γ (.cons e es) ρ = (ev Γ e ρ).bind fun c ρ => (evs Γ es ρ).bind fun ds ρ => .ok (c.frz :: ds) ρ := by first | rfl | (simp only [evs]; done)
theorem evo_non  {ρ : Env} : evo Γ (.non) ρ = .ok none ρ := by first | rfl | (simp only [evo]; done)
theorem evo_som {e} {ρ : Env} : evo Γ (.som e) ρ = (ev Γ e ρ).bind fun c ρ => match c.frz with
    | .int i => .ok (some i) ρ
    | _ => .no := by first | rfl | (simp only [evo]; done)
theorem evi_of {e} {ρ : Env} : evi Γ (.of e) ρ = (ev Γ e ρ).bind fun c ρ => .of c.frz.items ρ := by first | rfl | (simp only [evi]; done)
theorem evi_rg1 {e} {ρ : Env} : evi Γ (.rg1 e) ρ = (ev Γ e ρ).bind fun c ρ => match c.frz with
    | .int j => if small62 j then .ok (rangeL 0 j.toNat) ρ else .no
    | _ => .no := by first | rfl | (simp only [evi]; done)
theorem evi_rg2 {a} {b} {ρ : Env} : evi Γ (.rg2 a b) ρ = (ev Γ a ρ).bind fun c ρ => (ev Γ b ρ).bind fun d ρ => match c.frz, d.frz with
    | .int i, .int j => if small62 i && small62 j then .ok (rangeL i (j - i).toNat) ρ else .no
    | _, _ => .no := by first | rfl | (simp only [evi]; done)
theorem evi_enum {e} {ρ : Env} : evi Γ (.enum e) ρ = (ev Γ e ρ).bind fun c ρ => match c.frz with
    | .lst ds => .ok (enumL ds) ρ
    | _ => .no := by first | rfl | (simp only [evi]; done)
theorem evi_zip {a} {b} {ρ : Env} : evi Γ (.zip a b) ρ = (ev Γ a ρ).bind fun c ρ => (ev Γ b ρ).bind fun d ρ => match c.frz, d.frz with
    | .lst as, .lst bs => .ok (zipL as bs) ρ
    | _, _ => .no := by first | rfl | (simp only [evi]; done)
theorem xs_loop {tg} {it} {b} {ρ : Env} : xs Γ Ξ sb (.loop tg it b) ρ = (evi Γ it ρ).out fun ds ρ => forL tg (fun ρ => xss Γ Ξ sb b ρ) ds ρ := rfl
theorem xs_pass  {ρ : Env} : xs Γ Ξ sb (.pass) ρ = .nx ρ := by first | rfl | (simp only [xs]; done)
theorem xs_asg {i} {e} {ρ : Env} : xs Γ Ξ sb (.asg i e) ρ = (ev Γ e ρ).out fun c ρ => .nx (ρ.set i (some (.val c.frz))) := by first | rfl | (simp only [xs]; done)
theorem xs_own {i} {e} {ρ : Env} : xs Γ Ξ sb (.own i e) ρ = (ev Γ e ρ).out fun c ρ => .nx (ρ.set i (some c)) := by first | rfl | (simp only [xs]; done)
theorem xs_asgT {is} {e} {ρ : Env} : xs Γ Ξ sb (.asgT is e) ρ = (ev Γ e ρ).out fun c ρ => match (Tg.tp is).put c.frz ρ with
    | some ρ => .nx ρ
    | none => .no := by first | rfl | (simp only [xs]; done)
theorem xs_ite {c} {a} {b} {ρ : Env} : xs Γ Ξ sb (.ite c a b) ρ = (ev Γ c ρ).out fun k ρ => match k.frz.truth with
    | some true => xss Γ Ξ sb a ρ
    | some false => xss Γ Ξ sb b ρ
    | none => .no := by first | rfl | (simp only [xs]; done)
theorem xs_ret {e} {ρ : Env} : xs Γ Ξ sb (.ret e) ρ = (ev Γ e ρ).out fun c _ => .rt c := by first | rfl | (simp only [xs]; done)
theorem xs_retN  {ρ : Env} : xs Γ Ξ sb (.retN) ρ = .rt (.val .non) := by first | rfl | (simp only [xs]; done)
theorem xs_expr {e} {ρ : Env} : xs Γ Ξ sb (.expr e) ρ = (ev Γ e ρ).out fun _ ρ => .nx ρ := by first | rfl | (simp only [xs]; done)
theorem xs_raise {x} {es} {ρ : Env} : xs Γ Ξ sb (.raise x es) ρ = (evs Γ es ρ).out fun ds ρ => match Ξ x ds with
    | some x => .ex x ρ
    | none => .no := by first | rfl | (simp only [xs]; done)
theorem xs_app {i} {e} {ρ : Env} : xs Γ Ξ sb (.app i e) ρ = match ρ.get i with
    | some (.own _) => (ev Γ e ρ).out fun c ρ => (match ρ.get i with
      | some (.own ds) => if ds.length < LIM then .nx (ρ.set i (some (.own (ds ++ [c.frz])))) else .no
      | _ => .no)
    | _ => .no := by first | rfl | (simp only [xs]; done)
theorem xs_tr {b} {hs} {ρ : Env} : xs Γ Ξ sb (.tr b hs) ρ = match xss Γ Ξ sb b ρ with
    | .ex x ρ => hdsL sb x hs ρ
    | .nx ρ => .nx ρ
    | .rt c => .rt c
    | .no => .no := by first | rfl | (simp only [xs]; done)
theorem xss_nil  {ρ : Env} : xss Γ Ξ sb (.nil) ρ = .nx ρ := by first | rfl | (simp only [xss]; done)
theorem xss_cons {s} {ss} {ρ : Env} : xss Γ Ξ sb (.cons s ss) ρ = (xs Γ Ξ sb s ρ).andThen fun ρ => xss Γ Ξ sb ss ρ := by first | rfl | (simp only [xss]; done)
end
theorem lim_0 : (0 ≤ LIM) = True := by simp [LIM]
theorem lim_1 : (1 ≤ LIM) = True := by simp [LIM]
theorem lim_2 : (2 ≤ LIM) = True := by simp [LIM]
theorem lim_3 : (3 ≤ LIM) = True := by simp [LIM]
theorem lim_4 : (4 ≤ LIM) = True := by simp [LIM]
theorem lim_5 : (5 ≤ LIM) = True := by simp [LIM]
theorem lim_9 : (9 ≤ LIM) = True := by simp [LIM]
theorem bi_len_s {s : List Nat} : Bi.run .len [.str s] = some (.val (.int s.length)) := rfl
theorem bi_len_t {s : List D} : Bi.run .len [.tup s] = some (.val (.int s.length)) := rfl
theorem bi_len_l {s : List D} : Bi.run .len [.lst s] = some (.val (.int s.length)) := rfl
theorem bi_len_c {s : List Int} : Bi.run .len [.scr s] = some (.val (.int s.length)) := rfl
theorem bi_abs_i {i : Int} : Bi.run .abs [.int i] = some (.val (.int (if i < 0 then -i else i))) := rfl
theorem bi_int_i {i : Int} : Bi.run .int [.int i] = some (.val (.int i)) := rfl
theorem bi_tup_t {s : List D} : Bi.run .tuple [.tup s] = some (.val (.tup s)) := rfl
theorem bi_tup_l {s : List D} : Bi.run .tuple [.lst s] = some (.val (.tup s)) := rfl
theorem bi_lst_t {s : List D} : Bi.run .list [.tup s] = some (.own s) := rfl
theorem bi_lst_l {s : List D} : Bi.run .list [.lst s] = some (.own s) := rfl
theorem bi_all_l {s : List D} : Bi.run .all [.lst s] = (allOf D.asBl s).map fun bs => .val (.bl (bs.all id)) := rfl
theorem bi_any_l {s : List D} : Bi.run .any [.lst s] = (allOf D.asBl s).map fun bs => .val (.bl (bs.any id)) := rfl
theorem op_add_i {i j : Int} : Op.run .add (.int i) (.int j) = some (.val (.int (i + j))) := rfl
theorem op_sub_i {i j : Int} : Op.run .sub (.int i) (.int j) = some (.val (.int (i - j))) := rfl
theorem op_mul_i {i j : Int} : Op.run .mul (.int i) (.int j) = if smallI i || smallI j then some (.val (.int (i * j))) else none := rfl
theorem op_div_i {i j : Int} : Op.run .fdiv (.int i) (.int j) = if 0 < j ∧ j < 1073741824 then some (.val (.int (i / j))) else none := rfl
theorem op_mod_i {i j : Int} : Op.run .mod (.int i) (.int j) = if 0 < j then some (.val (.int (i % j))) else none := rfl
theorem op_add_s {s t : List Nat} : Op.run .add (.str s) (.str t) = if s.length + t.length ≤ LIM then some (.val (.str (s ++ t))) else none := rfl
theorem cm_lt_i {i j : Int} : Cm.run .lt (.int i) (.int j) = some (decide (i < j)) := rfl
theorem cm_le_i {i j : Int} : Cm.run .le (.int i) (.int j) = some (decide (i ≤ j)) := rfl
theorem cm_gt_i {i j : Int} : Cm.run .gt (.int i) (.int j) = some (decide (j < i)) := rfl
theorem cm_ge_i {i j : Int} : Cm.run .ge (.int i) (.int j) = some (decide (j ≤ i)) := rfl
theorem ci_lt_i {i j : Int} : Cm.runI .lt (.int i) (.int j) = some (decide (i < j)) := rfl
theorem ci_le_i {i j : Int} : Cm.runI .le (.int i) (.int j) = some (decide (i ≤ j)) := rfl
theorem cm_eq {a b : D} : Cm.run .eq a b = if a.flat 40 && b.flat 40 then some (a.eqv b) else none := rfl
theorem cm_ne {a b : D} : Cm.run .ne a b = if a.flat 40 && b.flat 40 then some (!a.eqv b) else none := rfl
theorem cm_in {a b : D} : Cm.run .isin a b = a.isin b := rfl
theorem cm_nin {a b : D} : Cm.run .notin a b = (a.isin b).map (!·) := rfl
theorem cm_is {a b : D} : Cm.run .is a b = a.isb b := rfl
theorem cm_isn {a b : D} : Cm.run .isnot a b = (a.isb b).map (!·) := rfl
theorem is_nn : D.isb .non .non = some true := rfl
theorem is_bn {b : Bool} : D.isb (.bl b) .non = some false := rfl
theorem is_in {b : Int} : D.isb (.int b) .non = some false := rfl
theorem is_sn {b : List Nat} : D.isb (.str b) .non = some false := rfl
theorem is_tn {b : List D} : D.isb (.tup b) .non = some false := rfl
theorem is_bb {a b : Bool} : D.isb (.bl a) (.bl b) = some (a == b) := rfl
theorem tr_non : D.truth .non = some false := rfl
theorem tr_bl {b : Bool} : D.truth (.bl b) = some b := rfl
theorem tr_int {b : Int} : D.truth (.int b) = some (b != 0) := rfl
theorem tr_str {b : List Nat} : D.truth (.str b) = some (!b.isEmpty) := rfl
theorem tr_tup {b : List D} : D.truth (.tup b) = some (!b.isEmpty) := rfl
theorem tr_lst {b : List D} : D.truth (.lst b) = some (!b.isEmpty) := rfl
theorem ty_s {b : List Nat} : D.typ (.str b) = some "str" := rfl
theorem ix_t {ds : List D} {i : Int} : D.idx (.tup ds) (.int i) = L2.atI ds i := rfl
theorem ix_l {ds : List D} {i : Int} : D.idx (.lst ds) (.int i) = L2.atI ds i := rfl
theorem ix_c {ds : List Int} {i : Int} : D.idx (.scr ds) (.int i) = (L2.atI ds i).map .int := rfl
theorem ix_s {ds : List Nat} {i : Int} : D.idx (.str ds) (.int i) = (L2.atI ds i).map fun c => .str [c] := rfl
theorem it_t {ds : List D} : D.items (.tup ds) = some ds := rfl
theorem it_l {ds : List D} : D.items (.lst ds) = some ds := rfl
theorem it_s {ds : List Nat} : D.items (.str ds) = some (ds.map fun c => .str [c]) := rfl
theorem it_c {ds : List Int} : D.items (.scr ds) = some (ds.map .int) := rfl
theorem put_nm {i : Nat} {d : D} {ρ : Env} : Tg.put (.nm i) d ρ = some (ρ.set i (some (.val d))) := rfl
theorem put_2 {i j : Nat} {a b : D} {ρ : Env} : Tg.put (.tp [i, j]) (.tup [a, b]) ρ = some ((ρ.set i (some (.val a))).set j (some (.val b))) := rfl
theorem put_3 {i j k : Nat} {a b c : D} {ρ : Env} : Tg.put (.tp [i, j, k]) (.tup [a, b, c]) ρ = some (((ρ.set i (some (.val a))).set j (some (.val b))).set k (some (.val c))) := rfl
end Bw

set_option Elab.async false
set_option linter.all false
set_option maxRecDepth 100000
set_option maxHeartbeats 0
/-! the program in the small language -/
namespace K79
open Bw PySem PySem.Spec PyProof.Rows L2
def top (i : Nat) : Stmt := PySem.Challenge.pw_bothways_k79_words_remarks_lines.main.body.getD i (.Pass ⟨0, 0, 0, 0⟩)
def clsB : Stmt → List Stmt
  | .ClassDef (body := b) .. => b
  | _ => []
def b_is_short : Ss := (.cons (.ite (.or (.not (.isi (.var 0) "str")) (.not (.cmp2 .le .le (.cst (.int 1)) (.bi .len (.cons (.var 0) .nil)) (.glb "LONGEST_NAME" (.int 8))))) (.cons (.ret (.cst (.bl false))) .nil) .nil) (.cons (.ret (.bi .all (.cons (.comp (.cmp .isin (.var 1) (.glb "LETTERS" (.str [97, 98, 99, 100, 101, 102, 103, 104, 105, 106, 107, 108, 109, 110, 111, 112, 113, 114, 115, 116, 117, 118, 119, 120, 121, 122]))) (.nm 1) (.of (.var 0))) .nil))) .nil))
def f_is_short : FnD := ⟨1, 2, b_is_short⟩
def b_is_name : Ss := (.cons (.ret (.and (.call "is_short" (.cons (.var 0) .nil)) (.cmp .notin (.var 0) (.glb "CLOSED" (.tup [(.str [115, 105, 103, 110, 115]), (.str [102, 108, 97, 103]), (.str [108, 101, 102, 116]), (.str [114, 105, 103, 104, 116]), (.str [119, 114, 105, 116, 101]), (.str [99, 111, 112, 121]), (.str [115, 101, 116]), (.str [99, 108, 101, 97, 114]), (.str [116, 117, 114, 110]), (.str [121, 101, 115]), (.str [110, 111]), (.str [105, 102]), (.str [101, 108, 115, 101]), (.str [119, 104, 105, 108, 101]), (.str [101, 110, 100]), (.str [97, 116]), (.str [102, 105, 114, 115, 116]), (.str [108, 97, 115, 116]), (.str [110, 111, 116]), (.str [97, 110, 100]), (.str [111, 114])]))))) .nil)
def f_is_name : FnD := ⟨1, 1, b_is_name⟩
def b_without_remark : Ss := (.cons (.asg 1 (.mt .find (.var 0) (.cons (.glb "REMARK" (.str [35])) .nil))) (.cons (.ret (.ite (.cmp .lt (.var 1) (.cst (.int 0))) (.var 0) (.slc (.var 0) .non (.som (.var 1))))) .nil))
def f_without_remark : FnD := ⟨1, 2, b_without_remark⟩
def b_is_sign_of_words : Ss := (.cons (.ret (.or (.cmp .isin (.var 0) (.glb "LETTERS" (.str [97, 98, 99, 100, 101, 102, 103, 104, 105, 106, 107, 108, 109, 110, 111, 112, 113, 114, 115, 116, 117, 118, 119, 120, 121, 122]))) (.or (.cmp .eq (.var 0) (.cst (.str [32]))) (.cmp .isin (.var 0) (.glb "BRACKETS" (.tup [(.str [40]), (.str [41])])))))) .nil)
def f_is_sign_of_words : FnD := ⟨1, 1, b_is_sign_of_words⟩
def b_line_words : Ss := (.cons (.ite (.or (.not (.isi (.var 0) "str")) (.cmp .isin (.cst (.str [10])) (.var 0))) (.cons (.ret (.cst .non)) .nil) .nil) (.cons (.asg 1 (.call "without_remark" (.cons (.var 0) .nil))) (.cons (.ite (.not (.bi .all (.cons (.comp (.call "is_sign_of_words" (.cons (.var 2) .nil)) (.nm 2) (.of (.var 1))) .nil))) (.cons (.ret (.cst .non)) .nil) .nil) (.cons (.ret (.bi .tuple (.cons (.mt .words (.mt .replace (.mt .replace (.var 1) (.cons (.cst (.str [40])) (.cons (.cst (.str [32, 40, 32])) .nil))) (.cons (.cst (.str [41])) (.cons (.cst (.str [32, 41, 32])) .nil))) .nil) .nil))) .nil))))
def f_line_words : FnD := ⟨1, 3, b_line_words⟩
def b_line_remark : Ss := (.cons (.ite (.or (.not (.isi (.var 0) "str")) (.cmp .isin (.cst (.str [10])) (.var 0))) (.cons (.ret (.cst .non)) .nil) .nil) (.cons (.asg 1 (.mt .find (.var 0) (.cons (.glb "REMARK" (.str [35])) .nil))) (.cons (.ret (.ite (.cmp .lt (.var 1) (.cst (.int 0))) (.cst .non) (.slc (.var 0) (.som (.bin .add (.var 1) (.cst (.int 1)))) .non))) .nil)))
def f_line_remark : FnD := ⟨1, 2, b_line_remark⟩
def b_closed_lines : Ss := (.cons (.ite (.not (.isi (.var 0) "str")) (.cons (.raise "BadLine" (.cons (.cst (.int 0)) .nil)) .nil) .nil) (.cons (.ret (.slc (.mt .split (.var 0) (.cons (.cst (.str [10])) .nil)) .non (.som (.neg (.cst (.int 1)))))) .nil))
def f_closed_lines : FnD := ⟨1, 1, b_closed_lines⟩
def b_is_closed : Ss := (.cons (.ret (.or (.cmp .eq (.var 0) (.cst (.str []))) (.cmp .eq (.idx (.var 0) (.neg (.cst (.int 1)))) (.cst (.str [10]))))) .nil)
def f_is_closed : FnD := ⟨1, 1, b_is_closed⟩
def b_source_lines : Ss := (.cons (.own 1 (.lst .nil)) (.cons (.asg 2 (.call "closed_lines" (.cons (.var 0) .nil))) (.cons (.loop (.tp [3, 4]) (.enum (.var 2)) (.cons (.asg 5 (.call "line_words" (.cons (.var 4) .nil))) (.cons (.ite (.cmp .is (.var 5) (.cst .non)) (.cons (.raise "BadLine" (.cons (.bin .add (.var 3) (.cst (.int 1))) .nil)) .nil) .nil) (.cons (.ite (.cmp .gt (.bi .len (.cons (.var 5) .nil)) (.cst (.int 0))) (.cons (.app 1 (.tup (.cons (.bin .add (.var 3) (.cst (.int 1))) (.cons (.var 5) .nil)))) .nil) .nil) .nil)))) (.cons (.ite (.not (.call "is_closed" (.cons (.var 0) .nil))) (.cons (.raise "BadLine" (.cons (.bin .add (.bi .len (.cons (.var 2) .nil)) (.cst (.int 1))) .nil)) .nil) .nil) (.cons (.ret (.biP .tuple 1)) .nil)))))
def f_source_lines : FnD := ⟨1, 6, b_source_lines⟩
def b_remarks_of : Ss := (.cons (.expr (.call "source_lines" (.cons (.var 0) .nil))) (.cons (.own 1 (.lst .nil)) (.cons (.loop (.tp [2, 3]) (.enum (.call "closed_lines" (.cons (.var 0) .nil))) (.cons (.asg 4 (.call "line_remark" (.cons (.var 3) .nil))) (.cons (.ite (.cmp .isnot (.var 4) (.cst .non)) (.cons (.app 1 (.tup (.cons (.bin .add (.var 2) (.cst (.int 1))) (.cons (.var 4) .nil)))) .nil) .nil) .nil))) (.cons (.ret (.biP .tuple 1)) .nil))))
def f_remarks_of : FnD := ⟨1, 5, b_remarks_of⟩
def b_without_remarks : Ss := (.cons (.expr (.call "source_lines" (.cons (.var 0) .nil))) (.cons (.own 1 (.lst .nil)) (.cons (.loop (.nm 2) (.of (.call "closed_lines" (.cons (.var 0) .nil))) (.cons (.app 1 (.ite (.cmp .is (.call "line_remark" (.cons (.var 2) .nil)) (.cst .non)) (.var 2) (.mt .rstrip (.call "without_remark" (.cons (.var 2) .nil)) .nil))) .nil)) (.cons (.ret (.mt .join (.cst (.str [])) (.cons (.comp (.bin .add (.var 2) (.cst (.str [10]))) (.nm 2) (.of (.fz 1))) .nil))) .nil))))
def f_without_remarks : FnD := ⟨1, 3, b_without_remarks⟩
def b__law_mixed : Ss := (.cons (.asg 2 (.bin .mod (.bi .int (.cons (.bin .add (.bin .mul (.bin .add (.bi .abs (.cons (.var 0) .nil)) (.cst (.int 1))) (.cst (.int 48271))) (.bin .mul (.var 1) (.cst (.int 69621)))) .nil)) (.cst (.int 2147483647)))) (.cons (.ret (.bin .mod (.bi .int (.cons (.bin .add (.bin .mul (.var 2) (.cst (.int 16807))) (.bin .mul (.var 1) (.cst (.int 31)))) .nil)) (.cst (.int 2147483629)))) .nil))
def f__law_mixed : FnD := ⟨2, 3, b__law_mixed⟩
def b__law_left : Ss := (.cons (.asg 2 (.bi .int (.cons (.var 0) .nil))) (.cons (.loop (.nm 3) (.rg1 (.var 1)) (.cons (.asg 2 (.bin .fdiv (.var 2) (.cst (.int 1000)))) .nil)) (.cons (.ret (.var 2)) .nil)))
def f__law_left : FnD := ⟨2, 4, b__law_left⟩
def b__law_number : Ss := (.cons (.ite (.cmp .eq (.bi .len (.cons (.var 0) .nil)) (.cst (.int 0))) (.cons (.ret (.call "_law_mixed" (.cons (.cst (.int 0)) (.cons (.var 1) .nil)))) .nil) .nil) (.cons (.asg 2 (.idx (.var 0) (.bin .mod (.bi .int (.cons (.var 1) .nil)) (.bi .len (.cons (.var 0) .nil))))) (.cons (.asg 3 (.call "_law_left" (.cons (.bi .abs (.cons (.var 2) .nil)) (.cons (.bin .fdiv (.var 1) (.bi .len (.cons (.var 0) .nil))) .nil)))) (.cons (.ite (.and (.cmp .ge (.bi .abs (.cons (.var 2) .nil)) (.bin .pow (.cst (.int 10)) (.cst (.int 18)))) (.cmp .gt (.var 3) (.cst (.int 0)))) (.cons (.ret (.bin .mod (.bi .int (.cons (.var 3) .nil)) (.cst (.int 1000)))) .nil) .nil) (.cons (.ret (.call "_law_mixed" (.cons (.var 2) (.cons (.var 1) .nil)))) .nil)))))
def f__law_number : FnD := ⟨2, 4, b__law_number⟩
def b__law_flag : Ss := (.cons (.ite (.var 1) (.cons (.ret (.cmp .is (.var 0) (.cst (.bl true)))) .nil) .nil) (.cons (.ret (.cmp .is (.var 0) (.cst (.bl false)))) .nil))
def f__law_flag : FnD := ⟨2, 2, b__law_flag⟩
def b__law_line : Ss := (.cons (.asg 2 (.call "_law_number" (.cons (.var 0) (.cons (.var 1) .nil)))) (.cons (.own 3 (.lst .nil)) (.cons (.loop (.nm 4) (.rg1 (.bin .mod (.bi .int (.cons (.var 2) .nil)) (.cst (.int 6)))) (.cons (.app 3 (.idx (.lst (.cons (.cst (.str [97, 116])) (.cons (.cst (.str [40])) (.cons (.cst (.str [41])) (.cons (.cst (.str [108, 101, 102, 116])) (.cons (.cst (.str [122, 122])) (.cons (.cst (.str [110, 111, 116])) (.cons (.cst (.str [40, 97])) (.cons (.cst (.str [98, 41])) (.cons (.cst (.str [115, 105, 103, 110, 115])) .nil)))))))))) (.bin .mod (.bi .int (.cons (.bin .fdiv (.var 2) (.idx (.lst (.cons (.cst (.int 7)) (.cons (.cst (.int 61)) (.cons (.cst (.int 509)) (.cons (.cst (.int 4001)) (.cons (.cst (.int 33331)) .nil)))))) (.var 4))) .nil)) (.cst (.int 9))))) .nil)) (.cons (.asg 5 (.bin .add (.idx (.lst (.cons (.cst (.str [])) (.cons (.cst (.str [32])) (.cons (.cst (.str [32, 32])) .nil)))) (.bin .mod (.bi .int (.cons (.bin .fdiv (.var 2) (.cst (.int 11))) .nil)) (.cst (.int 3)))) (.mtP .join (.idx (.lst (.cons (.cst (.str [32])) (.cons (.cst (.str [32, 32])) .nil))) (.bin .mod (.bi .int (.cons (.bin .fdiv (.var 2) (.cst (.int 13))) .nil)) (.cst (.int 2)))) 3))) (.cons (.ite (.cmp .eq (.bin .mod (.bi .int (.cons (.bin .fdiv (.var 2) (.cst (.int 17))) .nil)) (.cst (.int 9))) (.cst (.int 0))) (.cons (.asg 5 (.bin .add (.var 5) (.idx (.lst (.cons (.cst (.str [57])) (.cons (.cst (.str [65])) (.cons (.cst (.str [45])) (.cons (.cst (.str [95])) .nil))))) (.bin .mod (.bi .int (.cons (.bin .fdiv (.var 2) (.cst (.int 19))) .nil)) (.cst (.int 4)))))) .nil) .nil) (.cons (.ite (.cmp .eq (.bin .mod (.bi .int (.cons (.bin .fdiv (.var 2) (.cst (.int 23))) .nil)) (.cst (.int 3))) (.cst (.int 0))) (.cons (.asg 5 (.bin .add (.bin .add (.bin .add (.var 5) (.idx (.lst (.cons (.cst (.str [32])) (.cons (.cst (.str [])) .nil))) (.bin .mod (.bi .int (.cons (.bin .fdiv (.var 2) (.cst (.int 29))) .nil)) (.cst (.int 2))))) (.cst (.str [35]))) (.idx (.lst (.cons (.cst (.str [])) (.cons (.cst (.str [32, 120, 57])) (.cons (.cst (.str [35, 32, 40, 32, 65])) (.cons (.cst (.str [32, 97, 116])) .nil))))) (.bin .mod (.bi .int (.cons (.bin .fdiv (.var 2) (.cst (.int 31))) .nil)) (.cst (.int 4)))))) .nil) .nil) (.cons (.ret (.var 5)) .nil)))))))
def f__law_line : FnD := ⟨2, 6, b__law_line⟩
def b__law_parted : Ss := (.cons (.asg 1 (.idx (.mt .split (.var 0) (.cons (.cst (.str [35])) .nil)) (.cst (.int 0)))) (.cons (.ite (.bi .any (.cons (.comp (.cmp .notin (.var 2) (.cst (.str [97, 98, 99, 100, 101, 102, 103, 104, 105, 106, 107, 108, 109, 110, 111, 112, 113, 114, 115, 116, 117, 118, 119, 120, 121, 122, 32, 40, 41]))) (.nm 2) (.of (.var 1))) .nil)) (.cons (.ret (.cst .non)) .nil) .nil) (.cons (.ret (.bi .tuple (.cons (.mt .words (.mt .replace (.mt .replace (.var 1) (.cons (.cst (.str [40])) (.cons (.cst (.str [32, 40, 32])) .nil))) (.cons (.cst (.str [41])) (.cons (.cst (.str [32, 41, 32])) .nil))) .nil) .nil))) .nil)))
def f__law_parted : FnD := ⟨1, 3, b__law_parted⟩
def b__law_noted : Ss := (.cons (.ite (.cmp .notin (.cst (.str [35])) (.var 0)) (.cons (.ret (.cst .non)) .nil) .nil) (.cons (.ret (.slc (.var 0) (.som (.bin .add (.mt .index (.var 0) (.cons (.cst (.str [35])) .nil)) (.cst (.int 1)))) .non)) .nil))
def f__law_noted : FnD := ⟨1, 1, b__law_noted⟩
def b__law_try : Ss := (.cons (.tr (.cons (.ret (.tup (.cons (.cst (.str [116, 111, 108, 100])) (.cons (.callv (.idx (.lst (.cons (.glb "source_lines" (.fn "source_lines")) (.cons (.glb "remarks_of" (.fn "remarks_of")) (.cons (.glb "without_remarks" (.fn "without_remarks")) .nil)))) (.var 0)) (.cons (.var 1) .nil)) .nil)))) .nil) [⟨"BadLine", (some 2), (.tup [(.cst (.str [108, 105, 110, 101])), (.fld "line")])⟩, ⟨"WalkError", (some 2), .bad⟩]) .nil)
def f__law_try : FnD := ⟨2, 3, b__law_try⟩
def b_law : Ss := (.cons (.asg 1 (.comp (.call "_law_line" (.cons (.var 0) (.cons (.bin .add (.cst (.int 10)) (.var 6)) .nil))) (.nm 6) (.rg1 (.bin .mod (.bi .int (.cons (.call "_law_number" (.cons (.var 0) (.cons (.cst (.int 0)) .nil))) .nil)) (.cst (.int 9)))))) (.cons (.loop (.nm 2) (.of (.var 1)) (.cons (.ite (.or (.cmp .ne (.call "line_words" (.cons (.var 2) .nil)) (.call "_law_parted" (.cons (.var 2) .nil))) (.cmp .ne (.call "line_remark" (.cons (.var 2) .nil)) (.call "_law_noted" (.cons (.var 2) .nil)))) (.cons (.ret (.cst (.bl false))) .nil) .nil) (.cons (.ite (.or (.cmp .isnot (.call "line_words" (.cons (.bin .add (.var 2) (.cst (.str [10]))) .nil)) (.cst .non)) (.cmp .isnot (.call "line_remark" (.cons (.bin .add (.var 2) (.cst (.str [10, 35]))) .nil)) (.cst .non))) (.cons (.ret (.cst (.bl false))) .nil) .nil) .nil))) (.cons (.asg 3 (.cmp .gt (.bin .mod (.bi .int (.cons (.call "_law_number" (.cons (.var 0) (.cons (.cst (.int 1)) .nil))) .nil)) (.cst (.int 4))) (.cst (.int 0)))) (.cons (.asg 4 (.mt .join (.cst (.str [])) (.cons (.comp (.bin .add (.var 2) (.cst (.str [10]))) (.nm 2) (.of (.var 1))) .nil))) (.cons (.asg 5 (.cst .non)) (.cons (.loop (.nm 6) (.rg1 (.bi .len (.cons (.var 1) .nil))) (.cons (.ite (.and (.cmp .is (.var 5) (.cst .non)) (.cmp .is (.call "_law_parted" (.cons (.idx (.var 1) (.var 6)) .nil)) (.cst .non))) (.cons (.asg 5 (.bin .add (.var 6) (.cst (.int 1)))) .nil) .nil) .nil)) (.cons (.ite (.not (.var 3)) (.cons (.asg 4 (.bin .add (.var 4) (.cst (.str [108, 101, 102, 116])))) (.cons (.ite (.cmp .is (.var 5) (.cst .non)) (.cons (.asg 5 (.bin .add (.bi .len (.cons (.var 1) .nil)) (.cst (.int 1)))) .nil) .nil) .nil)) .nil) (.cons (.ite (.cmp .isnot (.var 5) (.cst .non)) (.cons (.ret (.bi .all (.cons (.comp (.cmp .eq (.call "_law_try" (.cons (.var 14) (.cons (.var 4) .nil))) (.tup (.cons (.cst (.str [108, 105, 110, 101])) (.cons (.var 5) .nil)))) (.nm 14) (.rg1 (.cst (.int 3)))) .nil))) .nil) .nil) (.cons (.own 7 (.lst .nil)) (.cons (.own 8 (.lst .nil)) (.cons (.asg 9 (.cst (.str []))) (.cons (.loop (.nm 6) (.rg1 (.bi .len (.cons (.var 1) .nil))) (.cons (.asg 13 (.call "_law_parted" (.cons (.idx (.var 1) (.var 6)) .nil))) (.cons (.ite (.var 13) (.cons (.app 7 (.tup (.cons (.bin .add (.var 6) (.cst (.int 1))) (.cons (.var 13) .nil)))) .nil) .nil) (.cons (.ite (.cmp .isnot (.call "_law_noted" (.cons (.idx (.var 1) (.var 6)) .nil)) (.cst .non)) (.cons (.app 8 (.tup (.cons (.bin .add (.var 6) (.cst (.int 1))) (.cons (.call "_law_noted" (.cons (.idx (.var 1) (.var 6)) .nil)) .nil)))) (.cons (.asg 9 (.bin .add (.bin .add (.var 9) (.mt .rstripC (.idx (.mt .split (.idx (.var 1) (.var 6)) (.cons (.cst (.str [35])) .nil)) (.cst (.int 0))) (.cons (.cst (.str [32])) .nil))) (.cst (.str [10])))) .nil)) (.cons (.asg 9 (.bin .add (.bin .add (.var 9) (.idx (.var 1) (.var 6))) (.cst (.str [10])))) .nil)) .nil)))) (.cons (.ite (.or (.cmp .ne (.call "_law_try" (.cons (.cst (.int 0)) (.cons (.var 4) .nil))) (.tup (.cons (.cst (.str [116, 111, 108, 100])) (.cons (.biP .tuple 7) .nil)))) (.or (.cmp .ne (.call "_law_try" (.cons (.cst (.int 1)) (.cons (.var 4) .nil))) (.tup (.cons (.cst (.str [116, 111, 108, 100])) (.cons (.biP .tuple 8) .nil)))) (.cmp .ne (.call "_law_try" (.cons (.cst (.int 2)) (.cons (.var 4) .nil))) (.tup (.cons (.cst (.str [116, 111, 108, 100])) (.cons (.var 9) .nil)))))) (.cons (.ret (.cst (.bl false))) .nil) .nil) (.cons (.ite (.or (.cmp .ne (.call "_law_try" (.cons (.cst (.int 0)) (.cons (.var 9) .nil))) (.tup (.cons (.cst (.str [116, 111, 108, 100])) (.cons (.biP .tuple 7) .nil)))) (.cmp .ne (.call "_law_try" (.cons (.cst (.int 1)) (.cons (.var 9) .nil))) (.tup (.cons (.cst (.str [116, 111, 108, 100])) (.cons (.tup .nil) .nil))))) (.cons (.ret (.cst (.bl false))) .nil) .nil) (.cons (.loop (.nm 10) (.of (.lst (.cons (.cst .non) (.cons (.cst (.int 7)) (.cons (.lst (.cons (.cst (.str [108, 101, 102, 116])) .nil)) (.cons (.tup (.cons (.cst (.str [108, 101, 102, 116])) .nil)) .nil)))))) (.cons (.ite (.or (.cmp .isnot (.call "line_words" (.cons (.var 10) .nil)) (.cst .non)) (.or (.cmp .isnot (.call "line_remark" (.cons (.var 10) .nil)) (.cst .non)) (.not (.bi .all (.cons (.comp (.cmp .eq (.call "_law_try" (.cons (.var 14) (.cons (.var 10) .nil))) (.tup (.cons (.cst (.str [108, 105, 110, 101])) (.cons (.cst (.int 0)) .nil)))) (.nm 14) (.rg1 (.cst (.int 3)))) .nil))))) (.cons (.ret (.cst (.bl false))) .nil) .nil) .nil)) (.cons (.loop (.tp [10, 11, 12]) (.of (.lst (.cons (.tup (.cons (.cst (.str [97])) (.cons (.cst (.bl true)) (.cons (.cst (.bl true)) .nil)))) (.cons (.tup (.cons (.cst (.str [97, 98, 99, 100, 101, 102, 103, 104])) (.cons (.cst (.bl true)) (.cons (.cst (.bl true)) .nil)))) (.cons (.tup (.cons (.cst (.str [97, 98, 99, 100, 101, 102, 103, 104, 105])) (.cons (.cst (.bl false)) (.cons (.cst (.bl false)) .nil)))) (.cons (.tup (.cons (.cst (.str [])) (.cons (.cst (.bl false)) (.cons (.cst (.bl false)) .nil)))) (.cons (.tup (.cons (.cst (.str [108, 101, 102, 116])) (.cons (.cst (.bl true)) (.cons (.cst (.bl false)) .nil)))) (.cons (.tup (.cons (.cst (.str [115, 105, 103, 110, 115])) (.cons (.cst (.bl true)) (.cons (.cst (.bl false)) .nil)))) (.cons (.tup (.cons (.cst (.str [65])) (.cons (.cst (.bl false)) (.cons (.cst (.bl false)) .nil)))) (.cons (.tup (.cons (.cst (.str [120, 49])) (.cons (.cst (.bl false)) (.cons (.cst (.bl false)) .nil)))) (.cons (.tup (.cons (.cst .non) (.cons (.cst (.bl false)) (.cons (.cst (.bl false)) .nil)))) (.cons (.tup (.cons (.lst (.cons (.cst (.str [97])) .nil)) (.cons (.cst (.bl false)) (.cons (.cst (.bl false)) .nil)))) (.cons (.tup (.cons (.cst (.str [119, 104, 105, 108, 101])) (.cons (.cst (.bl true)) (.cons (.cst (.bl false)) .nil)))) (.cons (.tup (.cons (.cst (.str [120, 101, 110, 100])) (.cons (.cst (.bl true)) (.cons (.cst (.bl true)) .nil)))) .nil)))))))))))))) (.cons (.ite (.or (.not (.call "_law_flag" (.cons (.call "is_short" (.cons (.var 10) .nil)) (.cons (.var 11) .nil)))) (.not (.call "_law_flag" (.cons (.call "is_name" (.cons (.var 10) .nil)) (.cons (.var 12) .nil))))) (.cons (.ret (.cst (.bl false))) .nil) .nil) .nil)) (.cons (.ret (.cmp .eq (.call "_law_try" (.cons (.cst (.int 0)) (.cons (.cst (.str [])) .nil))) (.tup (.cons (.cst (.str [116, 111, 108, 100])) (.cons (.tup .nil) .nil))))) .nil)))))))))))))))))
def f_law : FnD := ⟨1, 15, b_law⟩
def i_BadLine : Stmt := (clsB (top 2)).getD 0 (.Pass ⟨0, 0, 0, 0⟩)
def tb : Tb where
  fns := [("is_short", 1), ("is_name", 1), ("without_remark", 1), ("is_sign_of_words", 1), ("line_words", 1), ("line_remark", 1), ("closed_lines", 1), ("is_closed", 1), ("source_lines", 1), ("remarks_of", 1), ("without_remarks", 1), ("_law_mixed", 2), ("_law_left", 2), ("_law_number", 2), ("_law_flag", 2), ("_law_line", 2), ("_law_parted", 1), ("_law_noted", 1), ("_law_try", 2), ("law", 1)]
  glb := [("BRACKETS", (.tup [(.str [40]), (.str [41])])), ("CLOSED", (.tup [(.str [115, 105, 103, 110, 115]), (.str [102, 108, 97, 103]), (.str [108, 101, 102, 116]), (.str [114, 105, 103, 104, 116]), (.str [119, 114, 105, 116, 101]), (.str [99, 111, 112, 121]), (.str [115, 101, 116]), (.str [99, 108, 101, 97, 114]), (.str [116, 117, 114, 110]), (.str [121, 101, 115]), (.str [110, 111]), (.str [105, 102]), (.str [101, 108, 115, 101]), (.str [119, 104, 105, 108, 101]), (.str [101, 110, 100]), (.str [97, 116]), (.str [102, 105, 114, 115, 116]), (.str [108, 97, 115, 116]), (.str [110, 111, 116]), (.str [97, 110, 100]), (.str [111, 114])])), ("LETTERS", (.str [97, 98, 99, 100, 101, 102, 103, 104, 105, 106, 107, 108, 109, 110, 111, 112, 113, 114, 115, 116, 117, 118, 119, 120, 121, 122])), ("LONGEST_NAME", (.int 8)), ("REMARK", (.str [35])), ("remarks_of", (.fn "remarks_of")), ("source_lines", (.fn "source_lines")), ("without_remarks", (.fn "without_remarks"))]
  exf := [("BadLine", "line")]
  blt := ["abs", "all", "any", "enumerate", "int", "isinstance", "len", "range", "str", "tuple"]
  cls := ["BadLine", "WalkError"]
def md : Md where
  T := tb
  sub := [("BadLine", "BadLine", true), ("BadLine", "WalkError", true)]
  R := [⟨"is_short", ["thing"], ["thing", "one"], defArgs (top 9), defBody (top 9), defScope (top 9), f_is_short⟩,
    ⟨"is_name", ["thing"], ["thing"], defArgs (top 10), defBody (top 10), defScope (top 10), f_is_name⟩,
    ⟨"without_remark", ["line"], ["line", "at"], defArgs (top 11), defBody (top 11), defScope (top 11), f_without_remark⟩,
    ⟨"is_sign_of_words", ["one"], ["one"], defArgs (top 12), defBody (top 12), defScope (top 12), f_is_sign_of_words⟩,
    ⟨"line_words", ["line"], ["line", "plain", "one"], defArgs (top 13), defBody (top 13), defScope (top 13), f_line_words⟩,
    ⟨"line_remark", ["line"], ["line", "at"], defArgs (top 14), defBody (top 14), defScope (top 14), f_line_remark⟩,
    ⟨"closed_lines", ["source"], ["source"], defArgs (top 15), defBody (top 15), defScope (top 15), f_closed_lines⟩,
    ⟨"is_closed", ["source"], ["source"], defArgs (top 16), defBody (top 16), defScope (top 16), f_is_closed⟩,
    ⟨"source_lines", ["source"], ["source", "found", "lines", "at", "line", "words"], defArgs (top 17), defBody (top 17), defScope (top 17), f_source_lines⟩,
    ⟨"remarks_of", ["source"], ["source", "found", "at", "line", "remark"], defArgs (top 18), defBody (top 18), defScope (top 18), f_remarks_of⟩,
    ⟨"without_remarks", ["source"], ["source", "lines", "line"], defArgs (top 19), defBody (top 19), defScope (top 19), f_without_remarks⟩,
    ⟨"_law_mixed", ["cell", "k"], ["cell", "k", "mixed"], defArgs (top 21), defBody (top 21), defScope (top 21), f__law_mixed⟩,
    ⟨"_law_left", ["cell", "times"], ["cell", "times", "left", "_"], defArgs (top 22), defBody (top 22), defScope (top 22), f__law_left⟩,
    ⟨"_law_number", ["script", "k"], ["script", "k", "cell", "left"], defArgs (top 23), defBody (top 23), defScope (top 23), f__law_number⟩,
    ⟨"_law_flag", ["found", "due"], ["found", "due"], defArgs (top 24), defBody (top 24), defScope (top 24), f__law_flag⟩,
    ⟨"_law_line", ["script", "k"], ["script", "k", "number", "words", "j", "text"], defArgs (top 25), defBody (top 25), defScope (top 25), f__law_line⟩,
    ⟨"_law_parted", ["line"], ["line", "ahead", "sign"], defArgs (top 26), defBody (top 26), defScope (top 26), f__law_parted⟩,
    ⟨"_law_noted", ["line"], ["line"], defArgs (top 27), defBody (top 27), defScope (top 27), f__law_noted⟩,
    ⟨"_law_try", ["which", "source"], ["which", "source", "e"], defArgs (top 28), defBody (top 28), defScope (top 28), f__law_try⟩,
    ⟨"law", ["script"], ["script", "lines", "line", "closed", "source", "fault", "k", "told", "notes", "cut", "thing", "short", "name", "words", "which"], defArgs (top 29), defBody (top 29), defScope (top 29), f_law⟩]
def xc : List XcR := [⟨"BadLine", "line", "self", "line", defArgs i_BadLine, defBody i_BadLine, defScope i_BadLine⟩]
def loose : List Str := ["WalkError", "BadLine", "LETTERS", "CLOSED", "BRACKETS", "REMARK", "LONGEST_NAME", "is_short", "is_name", "without_remark", "is_sign_of_words", "line_words", "line_remark", "closed_lines", "is_closed", "source_lines", "remarks_of", "without_remarks", "_law_mixed", "_law_left", "_law_number", "_law_flag", "_law_line", "_law_parted", "_law_noted", "_law_try"]
def lawAt : Nat := 29
end K79

set_option Elab.async false
set_option linter.all false
set_option maxRecDepth 100000
set_option maxHeartbeats 0
namespace K79
open Bw PySem PySem.Spec PyProof.Rows L2
theorem good : md.good = true := by kernel_rfl
theorem goodI : xc.all iniB = true := by kernel_rfl
abbrev Rr : PySem.W.OpenRow := PySem.W.OpenLaw.row PySem.Challenge.rw_bothways_k79_words_remarks_lines
abbrev hk : PySem.W.Hook := hookB 4 md xc
def ob (s : PySem.W.SharedT) : He.AlD := obsBG 4 md xc (HandSHeadRun.getT s)
theorem ob_eq (s : PySem.W.SharedT) : ob s = hk.obs s.abs := obsBG_eq (HandSHeadRun.getT_eq s)
theorem run (w : World) : HandSHeadRun.RunEq Rr (PySem.W.view Rr.prog [lawAt]) hk ob 2000 loose w := by
  intro os
  kernel_rfl
end K79

set_option Elab.async false
set_option linter.all false
set_option maxRecDepth 100000
namespace K79
open Bw PySem PySem.Spec PyProof.Rows L2
abbrev G (n : Nat) := Lv md.T md.sb md.F n
/-! ### texts -/
theorem at1 {a : List Nat} {c i : Nat} : StrLaws.At (sOf a) (sOf [c]) (sOf a).length i ↔ a[i]? = some c := by
  have h := TL.at_iff (x := sOf a) (y := sOf [c]) (by simp [TL.tl, sOf]) i
  rw [h]
  have e1 : TL.tl (sOf [c]) = [c] := rfl
  have e2 : TL.tl (sOf a) = a := rfl
  rw [e1, e2]
  unfold TL.pre
  by_cases hi : i < a.length
  · rw [List.drop_eq_getElem_cons hi, List.getElem?_eq_getElem hi]
    show (([a[i]] : List Nat) == [c]) = true ↔ some a[i] = some c
    simp
  · have e3 : a.drop i = [] := List.drop_eq_nil_of_le (by omega)
    rw [e3, List.getElem?_eq_none (by omega)]
    simp
def idx (c : Nat) (a : List Nat) : Nat := (a.takeWhile (· != c)).length
theorem idx_get {c : Nat} : ∀ {a : List Nat}, c ∈ a → a[idx c a]? = some c ∧ ∀ k, k < idx c a → a[k]? ≠ some c
  | [], h => by cases h
  | d :: a, h => by
    unfold idx
    by_cases e : d = c
    · subst e
      simp
    · have hm : c ∈ a := by simpa [Ne.symm e] using h
      obtain ⟨h1, h2⟩ := idx_get hm
      have hd : (d != c) = true := by simpa using e
      rw [List.takeWhile_cons, if_pos hd]
      refine ⟨by simpa [idx] using h1, fun k hk => ?_⟩
      cases k with
      | zero => simpa using e
      | succ k => simpa using h2 k (by simpa [idx] using hk)
theorem find1 (a : List Nat) (c : Nat) : Txt.find (sOf a) (sOf [c]) = if c ∈ a then (idx c a : Int) else -1 := by
  rcases find_whole (sOf a) (sOf [c]) with ⟨h, hn⟩ | ⟨i, h, hi, hn⟩
  · rw [h, if_neg]
    intro hm
    exact hn _ (at1.mpr (idx_get hm).1)
  · have hi' := at1.mp hi
    have hm : c ∈ a := List.mem_of_getElem? hi'
    rw [h, if_pos hm]
    obtain ⟨h1, h2⟩ := idx_get hm
    have a1 : ¬ i < idx c a := fun z => h2 i z hi'
    have a2 : ¬ idx c a < i := fun z => hn _ z (at1.mpr h1)
    have : i = idx c a := by omega
    rw [this]
theorem idx_le {c : Nat} {a : List Nat} (h : c ∈ a) : idx c a < a.length := (List.getElem?_eq_some_iff.mp (idx_get h).1).1
theorem take_idx {c : Nat} (a : List Nat) : a.take (idx c a) = a.takeWhile (· != c) := by
  induction a with
  | nil => rfl
  | cons d a ih =>
    unfold idx
    rw [List.takeWhile_cons]
    split
    · simpa [idx] using ih
    · rfl
theorem while_none {c : Nat} : ∀ {a : List Nat}, c ∉ a → a.takeWhile (· != c) = a
  | [], _ => rfl
  | d :: a, h => by
    have h1 : d ≠ c := fun e => h (e ▸ List.mem_cons_self)
    rw [List.takeWhile_cons, if_pos (by simpa using h1), while_none fun z => h (List.mem_cons_of_mem _ z)]
theorem sIx_mem {n : Nat} {i : Nat} (h : i ≤ n) (d : Nat) : HT.sIx n d (some (i : Int)) = i := by
  unfold HT.sIx
  have h1 : ¬ ((i : Nat) : Int) < 0 := by omega
  simp [h1]
  omega
def pl (a : List Nat) : List Nat := a.takeWhile (· != 35)
theorem slc_to {a : List Nat} {i : Nat} (h : i ≤ a.length) : D.slc (.str a) none (some (i : Int)) = some (.val (.str (a.take i))) := by
  show some (Cell.val (.str ((a.drop (HT.sIx a.length 0 none)).take (HT.sIx a.length a.length (some (i : Int)) - HT.sIx a.length 0 none)))) = _
  rw [sIx_mem h]
  rfl
theorem slc_from {a : List Nat} {i : Nat} (h : i ≤ a.length) : D.slc (.str a) (some (i : Int)) none = some (.val (.str (a.drop i))) := by
  show some (Cell.val (.str ((a.drop (HT.sIx a.length 0 (some (i : Int)))).take (HT.sIx a.length a.length none - HT.sIx a.length 0 (some (i : Int)))))) = _
  rw [sIx_mem h]
  have e : HT.sIx a.length a.length none = a.length := rfl
  rw [e, List.take_of_length_le (by simp)]
theorem c_without_remark (n : Nat) (a : List Nat) : G (n + 1) "without_remark" [.str a] = .ok (.val (.str (pl a))) := by
  rw [G, Lv_eq (b := f_without_remark) (by kernel_rfl) rfl]
  simp only [f_without_remark, b_without_remark, ev_cst, ev_var, ev_take, ev_fz, ev_glb, ev_tup, ev_lst, ev_bin, ev_neg, ev_not, ev_and, ev_or, ev_ite, ev_cmp, ev_cmp2, ev_idx, ev_slc, ev_call, ev_callv, ev_bi, ev_biP, ev_mt, ev_mtP, ev_isi, evs_nil, evs_cons, evo_non, evo_som, evi_of, evi_rg1, evi_rg2, evi_enum, evi_zip, xs_pass, xs_asg, xs_own, xs_asgT, xs_ite, xs_ret, xs_retN, xs_expr, xs_raise, xs_app, xs_tr, xss_nil, xss_cons, bi_len_s, bi_len_t, bi_len_l, bi_len_c, bi_abs_i, bi_int_i, bi_tup_t, bi_tup_l, bi_lst_t, bi_lst_l, bi_all_l, bi_any_l, op_add_i, op_sub_i, op_mul_i, op_div_i, op_mod_i, op_add_s, cm_lt_i, cm_le_i, cm_gt_i, cm_ge_i, ci_lt_i, ci_le_i, cm_eq, cm_ne, cm_in, cm_nin, cm_is, cm_isn, is_nn, is_bn, is_in, is_sn, is_tn, is_bb, tr_non, tr_bl, tr_int, tr_str, tr_tup, tr_lst, ty_s, ix_t, ix_l, ix_c, ix_s, it_t, it_l, it_s, it_c, put_nm, put_2, put_3, lim_0, lim_1, lim_2, lim_3, lim_4, lim_5, lim_9, if_true, rbind_ok, rbind_ex, out_ok, out_ex, then_nx, then_rt, then_ex, of_some, frz_val, frz_own, cr_nx, cr_rt, cr_ex, get_zero, get_succ, Env.put, Option.map_some, Option.map_none, Option.bind_some, startE, List.map_cons, List.map_nil, List.length_cons, List.length_nil, List.cons_append, List.nil_append, List.replicate_succ, List.replicate_zero, List.set_cons_zero, List.set_cons_succ, Nat.reduceAdd, Nat.reduceSub, Nat.zero_add, Mt.run, find1]
  by_cases h : 35 ∈ a
  · have h2 : ¬ ((idx 35 a : Nat) : Int) < 0 := by omega
    simp only [if_pos h, h2, decide_false, Option.map_some, ev_cst, ev_var, ev_take, ev_fz, ev_glb, ev_tup, ev_lst, ev_bin, ev_neg, ev_not, ev_and, ev_or, ev_ite, ev_cmp, ev_cmp2, ev_idx, ev_slc, ev_call, ev_callv, ev_bi, ev_biP, ev_mt, ev_mtP, ev_isi, evs_nil, evs_cons, evo_non, evo_som, evi_of, evi_rg1, evi_rg2, evi_enum, evi_zip, xs_pass, xs_asg, xs_own, xs_asgT, xs_ite, xs_ret, xs_retN, xs_expr, xs_raise, xs_app, xs_tr, xss_nil, xss_cons, bi_len_s, bi_len_t, bi_len_l, bi_len_c, bi_abs_i, bi_int_i, bi_tup_t, bi_tup_l, bi_lst_t, bi_lst_l, bi_all_l, bi_any_l, op_add_i, op_sub_i, op_mul_i, op_div_i, op_mod_i, op_add_s, cm_lt_i, cm_le_i, cm_gt_i, cm_ge_i, ci_lt_i, ci_le_i, cm_eq, cm_ne, cm_in, cm_nin, cm_is, cm_isn, is_nn, is_bn, is_in, is_sn, is_tn, is_bb, tr_non, tr_bl, tr_int, tr_str, tr_tup, tr_lst, ty_s, ix_t, ix_l, ix_c, ix_s, it_t, it_l, it_s, it_c, put_nm, put_2, put_3, lim_0, lim_1, lim_2, lim_3, lim_4, lim_5, lim_9, if_true, rbind_ok, rbind_ex, out_ok, out_ex, then_nx, then_rt, then_ex, of_some, frz_val, frz_own, cr_nx, cr_rt, cr_ex, get_zero, get_succ, Env.put, Option.map_some, Option.map_none, Option.bind_some, startE, List.map_cons, List.map_nil, List.length_cons, List.length_nil, List.cons_append, List.nil_append, List.replicate_succ, List.replicate_zero, List.set_cons_zero, List.set_cons_succ, Nat.reduceAdd, Nat.reduceSub, Nat.zero_add, slc_to (Nat.le_of_lt (idx_le h)), take_idx]
    rfl
  · simp [if_neg h, ev_cst, ev_var, ev_take, ev_fz, ev_glb, ev_tup, ev_lst, ev_bin, ev_neg, ev_not, ev_and, ev_or, ev_ite, ev_cmp, ev_cmp2, ev_idx, ev_slc, ev_call, ev_callv, ev_bi, ev_biP, ev_mt, ev_mtP, ev_isi, evs_nil, evs_cons, evo_non, evo_som, evi_of, evi_rg1, evi_rg2, evi_enum, evi_zip, xs_pass, xs_asg, xs_own, xs_asgT, xs_ite, xs_ret, xs_retN, xs_expr, xs_raise, xs_app, xs_tr, xss_nil, xss_cons, bi_len_s, bi_len_t, bi_len_l, bi_len_c, bi_abs_i, bi_int_i, bi_tup_t, bi_tup_l, bi_lst_t, bi_lst_l, bi_all_l, bi_any_l, op_add_i, op_sub_i, op_mul_i, op_div_i, op_mod_i, op_add_s, cm_lt_i, cm_le_i, cm_gt_i, cm_ge_i, ci_lt_i, ci_le_i, cm_eq, cm_ne, cm_in, cm_nin, cm_is, cm_isn, is_nn, is_bn, is_in, is_sn, is_tn, is_bb, tr_non, tr_bl, tr_int, tr_str, tr_tup, tr_lst, ty_s, ix_t, ix_l, ix_c, ix_s, it_t, it_l, it_s, it_c, put_nm, put_2, put_3, lim_0, lim_1, lim_2, lim_3, lim_4, lim_5, lim_9, if_true, rbind_ok, rbind_ex, out_ok, out_ex, then_nx, then_rt, then_ex, of_some, frz_val, frz_own, cr_nx, cr_rt, cr_ex, get_zero, get_succ, Env.put, Option.map_some, Option.map_none, Option.bind_some, startE, List.map_cons, List.map_nil, List.length_cons, List.length_nil, List.cons_append, List.nil_append, List.replicate_succ, List.replicate_zero, List.set_cons_zero, List.set_cons_succ, Nat.reduceAdd, Nat.reduceSub, Nat.zero_add]
    unfold pl
    rw [while_none h]

def letters : List Nat := [97, 98, 99, 100, 101, 102, 103, 104, 105, 106, 107, 108, 109, 110, 111, 112, 113, 114, 115, 116, 117, 118, 119, 120, 121, 122]
theorem subs1 (c : Nat) (b : List Nat) : subs [c] b = decide (c ∈ b) := by
  unfold subs
  have key : (Builtin.Str.occurrences (sOf b) (sOf [c]) 0 (sOf b).length 1).isEmpty = !decide (c ∈ b) := by
    rcases StrLaws.occ_head (sOf b) (sOf [c]) 1 (Nat.le_refl 1) with ⟨h0, hn⟩ | ⟨i, r, h0, hi, hn⟩
    · rw [h0]
      have : c ∉ b := fun hm => hn _ (at1.mpr (idx_get hm).1)
      simp [this]
    · rw [h0]
      have : c ∈ b := List.mem_of_getElem? (at1.mp hi)
      simp [this]
  have e : (sOf b).length = b.length := by simp [sOf, Str.length]
  rw [e] at key
  show (!(Builtin.Str.occurrences (sOf b) (sOf [c]) 0 b.length 1).isEmpty) = _
  rw [key]
  simp
theorem isin_str (c : Nat) (b : List Nat) : D.isin (.str [c]) (.str b) = some (decide (c ∈ b)) := by
  show some (subs [c] b) = _
  rw [subs1]
def okc (c : Nat) : Bool := decide (c ∈ letters) || (c == 32 || (c == 40 || c == 41))
theorem c_is_sign (n : Nat) (c : Nat) : G (n + 1) "is_sign_of_words" [.str [c]] = .ok (.val (.bl (okc c))) := by
  rw [G, Lv_eq (b := f_is_sign_of_words) (by kernel_rfl) rfl]
  simp only [f_is_sign_of_words, b_is_sign_of_words, ev_cst, ev_var, ev_take, ev_fz, ev_glb, ev_tup, ev_lst, ev_bin, ev_neg, ev_not, ev_and, ev_or, ev_ite, ev_cmp, ev_cmp2, ev_idx, ev_slc, ev_call, ev_callv, ev_bi, ev_biP, ev_mt, ev_mtP, ev_isi, evs_nil, evs_cons, evo_non, evo_som, evi_of, evi_rg1, evi_rg2, evi_enum, evi_zip, xs_pass, xs_asg, xs_own, xs_asgT, xs_ite, xs_ret, xs_retN, xs_expr, xs_raise, xs_app, xs_tr, xss_nil, xss_cons, bi_len_s, bi_len_t, bi_len_l, bi_len_c, bi_abs_i, bi_int_i, bi_tup_t, bi_tup_l, bi_lst_t, bi_lst_l, bi_all_l, bi_any_l, op_add_i, op_sub_i, op_mul_i, op_div_i, op_mod_i, op_add_s, cm_lt_i, cm_le_i, cm_gt_i, cm_ge_i, ci_lt_i, ci_le_i, cm_eq, cm_ne, cm_in, cm_nin, cm_is, cm_isn, is_nn, is_bn, is_in, is_sn, is_tn, is_bb, tr_non, tr_bl, tr_int, tr_str, tr_tup, tr_lst, ty_s, ix_t, ix_l, ix_c, ix_s, it_t, it_l, it_s, it_c, put_nm, put_2, put_3, lim_0, lim_1, lim_2, lim_3, lim_4, lim_5, lim_9, if_true, rbind_ok, rbind_ex, out_ok, out_ex, then_nx, then_rt, then_ex, of_some, frz_val, frz_own, cr_nx, cr_rt, cr_ex, get_zero, get_succ, Env.put, Option.map_some, Option.map_none, Option.bind_some, startE, List.map_cons, List.map_nil, List.length_cons, List.length_nil, List.cons_append, List.nil_append, List.replicate_succ, List.replicate_zero, List.set_cons_zero, List.set_cons_succ, Nat.reduceAdd, Nat.reduceSub, Nat.zero_add, isin_str]
  unfold okc letters
  by_cases h1 : c ∈ [97, 98, 99, 100, 101, 102, 103, 104, 105, 106, 107, 108, 109, 110, 111, 112, 113, 114, 115, 116, 117, 118, 119, 120, 121, 122]
  · simp only [h1, decide_true, Option.map_some, ev_cst, ev_var, ev_take, ev_fz, ev_glb, ev_tup, ev_lst, ev_bin, ev_neg, ev_not, ev_and, ev_or, ev_ite, ev_cmp, ev_cmp2, ev_idx, ev_slc, ev_call, ev_callv, ev_bi, ev_biP, ev_mt, ev_mtP, ev_isi, evs_nil, evs_cons, evo_non, evo_som, evi_of, evi_rg1, evi_rg2, evi_enum, evi_zip, xs_pass, xs_asg, xs_own, xs_asgT, xs_ite, xs_ret, xs_retN, xs_expr, xs_raise, xs_app, xs_tr, xss_nil, xss_cons, bi_len_s, bi_len_t, bi_len_l, bi_len_c, bi_abs_i, bi_int_i, bi_tup_t, bi_tup_l, bi_lst_t, bi_lst_l, bi_all_l, bi_any_l, op_add_i, op_sub_i, op_mul_i, op_div_i, op_mod_i, op_add_s, cm_lt_i, cm_le_i, cm_gt_i, cm_ge_i, ci_lt_i, ci_le_i, cm_eq, cm_ne, cm_in, cm_nin, cm_is, cm_isn, is_nn, is_bn, is_in, is_sn, is_tn, is_bb, tr_non, tr_bl, tr_int, tr_str, tr_tup, tr_lst, ty_s, ix_t, ix_l, ix_c, ix_s, it_t, it_l, it_s, it_c, put_nm, put_2, put_3, lim_0, lim_1, lim_2, lim_3, lim_4, lim_5, lim_9, if_true, rbind_ok, rbind_ex, out_ok, out_ex, then_nx, then_rt, then_ex, of_some, frz_val, frz_own, cr_nx, cr_rt, cr_ex, get_zero, get_succ, Env.put, Option.map_some, Option.map_none, Option.bind_some, startE, List.map_cons, List.map_nil, List.length_cons, List.length_nil, List.cons_append, List.nil_append, List.replicate_succ, List.replicate_zero, List.set_cons_zero, List.set_cons_succ, Nat.reduceAdd, Nat.reduceSub, Nat.zero_add, Bool.true_or]
  · simp only [h1, decide_false, Option.map_some, ev_cst, ev_var, ev_take, ev_fz, ev_glb, ev_tup, ev_lst, ev_bin, ev_neg, ev_not, ev_and, ev_or, ev_ite, ev_cmp, ev_cmp2, ev_idx, ev_slc, ev_call, ev_callv, ev_bi, ev_biP, ev_mt, ev_mtP, ev_isi, evs_nil, evs_cons, evo_non, evo_som, evi_of, evi_rg1, evi_rg2, evi_enum, evi_zip, xs_pass, xs_asg, xs_own, xs_asgT, xs_ite, xs_ret, xs_retN, xs_expr, xs_raise, xs_app, xs_tr, xss_nil, xss_cons, bi_len_s, bi_len_t, bi_len_l, bi_len_c, bi_abs_i, bi_int_i, bi_tup_t, bi_tup_l, bi_lst_t, bi_lst_l, bi_all_l, bi_any_l, op_add_i, op_sub_i, op_mul_i, op_div_i, op_mod_i, op_add_s, cm_lt_i, cm_le_i, cm_gt_i, cm_ge_i, ci_lt_i, ci_le_i, cm_eq, cm_ne, cm_in, cm_nin, cm_is, cm_isn, is_nn, is_bn, is_in, is_sn, is_tn, is_bb, tr_non, tr_bl, tr_int, tr_str, tr_tup, tr_lst, ty_s, ix_t, ix_l, ix_c, ix_s, it_t, it_l, it_s, it_c, put_nm, put_2, put_3, lim_0, lim_1, lim_2, lim_3, lim_4, lim_5, lim_9, if_true, rbind_ok, rbind_ex, out_ok, out_ex, then_nx, then_rt, then_ex, of_some, frz_val, frz_own, cr_nx, cr_rt, cr_ex, get_zero, get_succ, Env.put, Option.map_some, Option.map_none, Option.bind_some, startE, List.map_cons, List.map_nil, List.length_cons, List.length_nil, List.cons_append, List.nil_append, List.replicate_succ, List.replicate_zero, List.set_cons_zero, List.set_cons_succ, Nat.reduceAdd, Nat.reduceSub, Nat.zero_add, Bool.false_or]
    by_cases h2 : c = 32
    · subst h2
      rfl
    · have e : D.eqv (.str [c]) (.str [32]) = false := by simp [D.eqv, h2]
      have e2 : (c == 32) = false := by simpa using h2
      simp only [D.flat, e, e2, Bool.and_self, if_true, Option.map_some, ev_cst, ev_var, ev_take, ev_fz, ev_glb, ev_tup, ev_lst, ev_bin, ev_neg, ev_not, ev_and, ev_or, ev_ite, ev_cmp, ev_cmp2, ev_idx, ev_slc, ev_call, ev_callv, ev_bi, ev_biP, ev_mt, ev_mtP, ev_isi, evs_nil, evs_cons, evo_non, evo_som, evi_of, evi_rg1, evi_rg2, evi_enum, evi_zip, xs_pass, xs_asg, xs_own, xs_asgT, xs_ite, xs_ret, xs_retN, xs_expr, xs_raise, xs_app, xs_tr, xss_nil, xss_cons, bi_len_s, bi_len_t, bi_len_l, bi_len_c, bi_abs_i, bi_int_i, bi_tup_t, bi_tup_l, bi_lst_t, bi_lst_l, bi_all_l, bi_any_l, op_add_i, op_sub_i, op_mul_i, op_div_i, op_mod_i, op_add_s, cm_lt_i, cm_le_i, cm_gt_i, cm_ge_i, ci_lt_i, ci_le_i, cm_eq, cm_ne, cm_in, cm_nin, cm_is, cm_isn, is_nn, is_bn, is_in, is_sn, is_tn, is_bb, tr_non, tr_bl, tr_int, tr_str, tr_tup, tr_lst, ty_s, ix_t, ix_l, ix_c, ix_s, it_t, it_l, it_s, it_c, put_nm, put_2, put_3, lim_0, lim_1, lim_2, lim_3, lim_4, lim_5, lim_9, if_true, rbind_ok, rbind_ex, out_ok, out_ex, then_nx, then_rt, then_ex, of_some, frz_val, frz_own, cr_nx, cr_rt, cr_ex, get_zero, get_succ, Env.put, Option.map_some, Option.map_none, Option.bind_some, startE, List.map_cons, List.map_nil, List.length_cons, List.length_nil, List.cons_append, List.nil_append, List.replicate_succ, List.replicate_zero, List.set_cons_zero, List.set_cons_succ, Nat.reduceAdd, Nat.reduceSub, Nat.zero_add, Bool.false_or]
      have e3 : D.isin (.str [c]) (.tup [.str [40], .str [41]]) = some (c == 40 || c == 41) := by
        simp [D.isin, D.flat, D.flats, D.eqv, Bool.beq_comm, eq_comm]
      simp only [e3, Option.map_some, ev_cst, ev_var, ev_take, ev_fz, ev_glb, ev_tup, ev_lst, ev_bin, ev_neg, ev_not, ev_and, ev_or, ev_ite, ev_cmp, ev_cmp2, ev_idx, ev_slc, ev_call, ev_callv, ev_bi, ev_biP, ev_mt, ev_mtP, ev_isi, evs_nil, evs_cons, evo_non, evo_som, evi_of, evi_rg1, evi_rg2, evi_enum, evi_zip, xs_pass, xs_asg, xs_own, xs_asgT, xs_ite, xs_ret, xs_retN, xs_expr, xs_raise, xs_app, xs_tr, xss_nil, xss_cons, bi_len_s, bi_len_t, bi_len_l, bi_len_c, bi_abs_i, bi_int_i, bi_tup_t, bi_tup_l, bi_lst_t, bi_lst_l, bi_all_l, bi_any_l, op_add_i, op_sub_i, op_mul_i, op_div_i, op_mod_i, op_add_s, cm_lt_i, cm_le_i, cm_gt_i, cm_ge_i, ci_lt_i, ci_le_i, cm_eq, cm_ne, cm_in, cm_nin, cm_is, cm_isn, is_nn, is_bn, is_in, is_sn, is_tn, is_bb, tr_non, tr_bl, tr_int, tr_str, tr_tup, tr_lst, ty_s, ix_t, ix_l, ix_c, ix_s, it_t, it_l, it_s, it_c, put_nm, put_2, put_3, lim_0, lim_1, lim_2, lim_3, lim_4, lim_5, lim_9, if_true, rbind_ok, rbind_ex, out_ok, out_ex, then_nx, then_rt, then_ex, of_some, frz_val, frz_own, cr_nx, cr_rt, cr_ex, get_zero, get_succ, Env.put, Option.map_some, Option.map_none, Option.bind_some, startE, List.map_cons, List.map_nil, List.length_cons, List.length_nil, List.cons_append, List.nil_append, List.replicate_succ, List.replicate_zero, List.set_cons_zero, List.set_cons_succ, Nat.reduceAdd, Nat.reduceSub, Nat.zero_add]
def rp (a : List Nat) : List Nat := StrLaws.replL [41] [32, 41, 32] (StrLaws.replL [40] [32, 40, 32] a)
def wds (a : List Nat) : List D := (Txt.words (sOf (rp a))).map fun x => .str (TL.tl x)
def lw (a : List Nat) : D := if (pl a).all okc then .tup (wds (pl a)) else .non
def lr (a : List Nat) : D := if 35 ∈ a then .str (a.drop (idx 35 a + 1)) else .non
/-! ### comprehensions over one name -/
theorem set_set (ρ : Bw.Env) (i : Nat) (x y : Option Cell) : (ρ.set i x).set i y = ρ.set i y := List.set_set ..
theorem comp1 {α : Type} {i : Nat} {f : Bw.Env → Res (Option D)} {u h : α → D} {ρ : Bw.Env} : ∀ {l : List α} {acc : List D} {x : Option Cell}, (∀ d ∈ l, f (ρ.set i (some (.val (u d)))) = .ok (some (h d)) (ρ.set i (some (.val (u d))))) → acc.length + l.length ≤ LIM →
    compL (.nm i) f (l.map u) acc (ρ.set i x) = .ok (acc ++ l.map h) (ρ.set i none)
  | [], acc, x, _, _ => by
    rw [List.map_nil]
    unfold compL
    simp [Tg.wipe, Tg.ixs, wipeE, set_set]
  | d :: l, acc, x, hh, hl => by
    rw [List.map_cons]
    unfold compL
    have e : (Tg.nm i).put (u d) (Tg.wipe (.nm i) (ρ.set i x)) = some (ρ.set i (some (.val (u d)))) := by
      simp [Tg.put, Tg.wipe, Tg.ixs, wipeE, set_set]
    rw [e]
    simp only [hh d List.mem_cons_self]
    rw [if_pos (by simp at hl; omega)]
    rw [comp1 (fun d hd => hh d (List.mem_cons_of_mem _ hd)) (by simp at hl ⊢; omega)]
    simp
theorem put_same {i : Nat} {ρ : Bw.Env} : (ρ.set i none).set i (ρ.get i) = ρ := by
  apply List.ext_getElem?
  intro j
  rw [set_set, List.getElem?_set]
  by_cases h : i = j
  · subst h
    by_cases hi : i < ρ.length
    · simp only [if_true, hi]
      unfold Env.get
      rw [List.getElem?_eq_getElem hi]
      rfl
    · simp [hi]
  · simp [h]
theorem comp_ok {α : Type} {Γ : Str → List D → CR} {i : Nat} {e : E} {it : Bw.It} {u h : α → D} {ρ0 ρ : Bw.Env} {l : List α} (hi : evi Γ it ρ0 = .ok (l.map u) ρ) (hf : Tg.free (.nm i) ρ = true) (hl : l.length ≤ LIM)
    (hh : ∀ d ∈ l, ∃ c, ev Γ e (ρ.set i (some (.val (u d)))) = .ok c (ρ.set i (some (.val (u d)))) ∧ c.frz = h d) : ev Γ (.comp e (.nm i) it) ρ0 = .ok (.own (l.map h)) ρ := by
  simp only [ev, hi, rbind_ok, if_pos hf]
  have k := comp1 (i := i) (f := fun ρ => (ev Γ e ρ).bind fun c ρ => .ok (some c.frz) ρ) (u := u) (h := h) (ρ := ρ) (l := l) (acc := []) (x := ρ.get i) (fun d hd => by
    obtain ⟨c, e1, e2⟩ := hh d hd
    simp only [e1, rbind_ok, e2]) (by simpa using hl)
  have e0 : ρ.set i (ρ.get i) = ρ := by
    have := put_same (i := i) (ρ := ρ)
    rwa [set_set] at this
  rw [e0] at k
  simp only [k, rbind_ok, List.nil_append]
  have e1 : Tg.back (.nm i) ρ (ρ.set i none) = ρ := by
    simp only [Tg.back, Tg.ixs, backE]
    exact put_same
  rw [e1]
theorem comp_okS {Γ : Str → List D → CR} {i : Nat} {e : E} {it : Bw.It} {b : Nat → Bool} {ρ : Bw.Env} {a : List Nat} (hi : evi Γ it ρ = .ok (a.map fun c => .str [c]) ρ) (hf : Tg.free (.nm i) ρ = true) (hl : a.length ≤ 100000)
    (hh : ∀ c, ev Γ e (ρ.set i (some (.val (.str [c])))) = .ok (.val (.bl (b c))) (ρ.set i (some (.val (.str [c]))))) : ev Γ (.comp e (.nm i) it) ρ = .ok (.own ((a.map b).map .bl)) ρ := by
  have k := comp_ok (h := fun c => .bl (b c)) hi hf (Nat.le_trans hl (by decide)) fun d hd => ⟨_, hh d, rfl⟩
  rw [k, List.map_map]
  rfl
theorem allOf_bl (l : List Bool) : allOf D.asBl (l.map .bl) = some l := by
  induction l with
  | nil => rfl
  | cons b l ih =>
    rw [List.map_cons]
    unfold allOf
    rw [ih]
    rfl
theorem pl_len (a : List Nat) : (pl a).length ≤ a.length := by
  have := List.takeWhile_sublist (p := (· != 35)) (l := a)
  exact this.length_le
theorem replL_len (y z a : List Nat) (hy : 1 ≤ y.length) : (StrLaws.replL y z a).length ≤ a.length + (a.length + 1) * z.length := by
  have e := StrLaws.replace_list (x := sOf a) (y := sOf y) (z := sOf z) (by simpa [sOf, Str.length] using hy)
  have e2 := TK.replace_len (sOf a) (sOf y) (sOf z)
  have e3 : (Txt.replace (sOf a) (sOf y) (sOf z)).length = (StrLaws.replL y z a).length := by
    have : (Txt.replace (sOf a) (sOf y) (sOf z)).length = (Txt.replace (sOf a) (sOf y) (sOf z)).cps.toList.length := by simp [Str.length]
    rw [this, e]
    rfl
  rw [e3] at e2
  have e4 : (sOf a).length = a.length := by simp [sOf, Str.length]
  have e5 : (sOf z).length = z.length := by simp [sOf, Str.length]
  rw [e4, e5] at e2
  exact e2
theorem rp1_len (a : List Nat) (h : a.length ≤ 1000) : (StrLaws.replL [40] [32, 40, 32] a).length ≤ 4003 := by
  have := replL_len [40] [32, 40, 32] a (by simp)
  simp only [List.length_cons, List.length_nil] at this
  omega
theorem rp_len (a : List Nat) (h : a.length ≤ 1000) : (rp a).length ≤ 100000 := by
  have h1 := rp1_len a h
  have := replL_len [41] [32, 41, 32] (StrLaws.replL [40] [32, 40, 32] a) (by simp)
  simp only [List.length_cons, List.length_nil] at this
  unfold rp
  omega
theorem repl_ok (a : List Nat) (h : a.length ≤ 1000) : Mt.run .replace (.str a) [.str [40], .str [32, 40, 32]] = some (.val (.str (StrLaws.replL [40] [32, 40, 32] a))) ∧
    Mt.run .replace (.str (StrLaws.replL [40] [32, 40, 32] a)) [.str [41], .str [32, 41, 32]] = some (.val (.str (rp a))) := by
  have h1 := rp1_len a h
  refine ⟨if_pos ⟨by simp, ?_⟩, if_pos ⟨by simp, ?_⟩⟩
  · simp only [List.length_cons, List.length_nil, LIM]
    omega
  · simp only [List.length_cons, List.length_nil, LIM]
    omega
theorem words_ok (a : List Nat) (h : a.length ≤ 100000) : Mt.run .words (.str a) [] = some (.own ((Txt.words (sOf a)).map fun x => .str (TL.tl x))) := if_pos (by simp only [LIM]; omega)
theorem c_line_words (n : Nat) (a : List Nat) (h10 : 10 ∉ a) (hl : a.length ≤ 1000) : G (n + 2) "line_words" [.str a] = .ok (.val (lw a)) := by
  rw [G, Lv_eq (b := f_line_words) (by kernel_rfl) rfl]
  have h1 : D.isin (.str [10]) (.str a) = some false := by rw [isin_str]; simp [h10]
  have hk : L2.kitB "str" "str" = some true := by decide
  simp only [f_line_words, b_line_words, ev_cst, ev_var, ev_take, ev_fz, ev_glb, ev_tup, ev_lst, ev_bin, ev_neg, ev_not, ev_and, ev_or, ev_ite, ev_cmp, ev_cmp2, ev_idx, ev_slc, ev_call, ev_callv, ev_bi, ev_biP, ev_mt, ev_mtP, ev_isi, evs_nil, evs_cons, evo_non, evo_som, evi_of, evi_rg1, evi_rg2, evi_enum, evi_zip, xs_pass, xs_asg, xs_own, xs_asgT, xs_ite, xs_ret, xs_retN, xs_expr, xs_raise, xs_app, xs_tr, xss_nil, xss_cons, bi_len_s, bi_len_t, bi_len_l, bi_len_c, bi_abs_i, bi_int_i, bi_tup_t, bi_tup_l, bi_lst_t, bi_lst_l, bi_all_l, bi_any_l, op_add_i, op_sub_i, op_mul_i, op_div_i, op_mod_i, op_add_s, cm_lt_i, cm_le_i, cm_gt_i, cm_ge_i, ci_lt_i, ci_le_i, cm_eq, cm_ne, cm_in, cm_nin, cm_is, cm_isn, is_nn, is_bn, is_in, is_sn, is_tn, is_bb, tr_non, tr_bl, tr_int, tr_str, tr_tup, tr_lst, ty_s, ix_t, ix_l, ix_c, ix_s, it_t, it_l, it_s, it_c, put_nm, put_2, put_3, lim_0, lim_1, lim_2, lim_3, lim_4, lim_5, lim_9, if_true, rbind_ok, rbind_ex, out_ok, out_ex, then_nx, then_rt, then_ex, of_some, frz_val, frz_own, cr_nx, cr_rt, cr_ex, get_zero, get_succ, Env.put, Option.map_some, Option.map_none, Option.bind_some, startE, List.map_cons, List.map_nil, List.length_cons, List.length_nil, List.cons_append, List.nil_append, List.replicate_succ, List.replicate_zero, List.set_cons_zero, List.set_cons_succ, Nat.reduceAdd, Nat.reduceSub, Nat.zero_add, h1, hk, Bool.not_true, Bool.not_false]
  have hw : Lv md.T md.sb md.F (n + 1) "without_remark" [.str a] = .ok (.val (.str (pl a))) := c_without_remark n a
  simp only [hw, ev_cst, ev_var, ev_take, ev_fz, ev_glb, ev_tup, ev_lst, ev_bin, ev_neg, ev_not, ev_and, ev_or, ev_ite, ev_cmp, ev_cmp2, ev_idx, ev_slc, ev_call, ev_callv, ev_bi, ev_biP, ev_mt, ev_mtP, ev_isi, evs_nil, evs_cons, evo_non, evo_som, evi_of, evi_rg1, evi_rg2, evi_enum, evi_zip, xs_pass, xs_asg, xs_own, xs_asgT, xs_ite, xs_ret, xs_retN, xs_expr, xs_raise, xs_app, xs_tr, xss_nil, xss_cons, bi_len_s, bi_len_t, bi_len_l, bi_len_c, bi_abs_i, bi_int_i, bi_tup_t, bi_tup_l, bi_lst_t, bi_lst_l, bi_all_l, bi_any_l, op_add_i, op_sub_i, op_mul_i, op_div_i, op_mod_i, op_add_s, cm_lt_i, cm_le_i, cm_gt_i, cm_ge_i, ci_lt_i, ci_le_i, cm_eq, cm_ne, cm_in, cm_nin, cm_is, cm_isn, is_nn, is_bn, is_in, is_sn, is_tn, is_bb, tr_non, tr_bl, tr_int, tr_str, tr_tup, tr_lst, ty_s, ix_t, ix_l, ix_c, ix_s, it_t, it_l, it_s, it_c, put_nm, put_2, put_3, lim_0, lim_1, lim_2, lim_3, lim_4, lim_5, lim_9, if_true, rbind_ok, rbind_ex, out_ok, out_ex, then_nx, then_rt, then_ex, of_some, frz_val, frz_own, cr_nx, cr_rt, cr_ex, get_zero, get_succ, Env.put, Option.map_some, Option.map_none, Option.bind_some, startE, List.map_cons, List.map_nil, List.length_cons, List.length_nil, List.cons_append, List.nil_append, List.replicate_succ, List.replicate_zero, List.set_cons_zero, List.set_cons_succ, Nat.reduceAdd, Nat.reduceSub, Nat.zero_add]
  have hpl := pl_len a
  have hc := comp_okS (Γ := Lv md.T md.sb md.F (n + 1)) (i := 2) (e := .call "is_sign_of_words" (.cons (.var 2) .nil)) (it := .of (.var 1)) (ρ := [some (.val (.str a)), some (.val (.str (pl a))), none]) (a := pl a) (b := okc) (by simp only [ev_cst, ev_var, ev_take, ev_fz, ev_glb, ev_tup, ev_lst, ev_bin, ev_neg, ev_not, ev_and, ev_or, ev_ite, ev_cmp, ev_cmp2, ev_idx, ev_slc, ev_call, ev_callv, ev_bi, ev_biP, ev_mt, ev_mtP, ev_isi, evs_nil, evs_cons, evo_non, evo_som, evi_of, evi_rg1, evi_rg2, evi_enum, evi_zip, xs_pass, xs_asg, xs_own, xs_asgT, xs_ite, xs_ret, xs_retN, xs_expr, xs_raise, xs_app, xs_tr, xss_nil, xss_cons, bi_len_s, bi_len_t, bi_len_l, bi_len_c, bi_abs_i, bi_int_i, bi_tup_t, bi_tup_l, bi_lst_t, bi_lst_l, bi_all_l, bi_any_l, op_add_i, op_sub_i, op_mul_i, op_div_i, op_mod_i, op_add_s, cm_lt_i, cm_le_i, cm_gt_i, cm_ge_i, ci_lt_i, ci_le_i, cm_eq, cm_ne, cm_in, cm_nin, cm_is, cm_isn, is_nn, is_bn, is_in, is_sn, is_tn, is_bb, tr_non, tr_bl, tr_int, tr_str, tr_tup, tr_lst, ty_s, ix_t, ix_l, ix_c, ix_s, it_t, it_l, it_s, it_c, put_nm, put_2, put_3, lim_0, lim_1, lim_2, lim_3, lim_4, lim_5, lim_9, if_true, rbind_ok, rbind_ex, out_ok, out_ex, then_nx, then_rt, then_ex, of_some, frz_val, frz_own, cr_nx, cr_rt, cr_ex, get_zero, get_succ, Env.put, Option.map_some, Option.map_none, Option.bind_some, startE, List.map_cons, List.map_nil, List.length_cons, List.length_nil, List.cons_append, List.nil_append, List.replicate_succ, List.replicate_zero, List.set_cons_zero, List.set_cons_succ, Nat.reduceAdd, Nat.reduceSub, Nat.zero_add]) rfl (by omega) (fun c => by
      have hw : Lv md.T md.sb md.F (n + 1) "is_sign_of_words" [.str [c]] = .ok (.val (.bl (okc c))) := c_is_sign n c
      simp only [ev_cst, ev_var, ev_take, ev_fz, ev_glb, ev_tup, ev_lst, ev_bin, ev_neg, ev_not, ev_and, ev_or, ev_ite, ev_cmp, ev_cmp2, ev_idx, ev_slc, ev_call, ev_callv, ev_bi, ev_biP, ev_mt, ev_mtP, ev_isi, evs_nil, evs_cons, evo_non, evo_som, evi_of, evi_rg1, evi_rg2, evi_enum, evi_zip, xs_pass, xs_asg, xs_own, xs_asgT, xs_ite, xs_ret, xs_retN, xs_expr, xs_raise, xs_app, xs_tr, xss_nil, xss_cons, bi_len_s, bi_len_t, bi_len_l, bi_len_c, bi_abs_i, bi_int_i, bi_tup_t, bi_tup_l, bi_lst_t, bi_lst_l, bi_all_l, bi_any_l, op_add_i, op_sub_i, op_mul_i, op_div_i, op_mod_i, op_add_s, cm_lt_i, cm_le_i, cm_gt_i, cm_ge_i, ci_lt_i, ci_le_i, cm_eq, cm_ne, cm_in, cm_nin, cm_is, cm_isn, is_nn, is_bn, is_in, is_sn, is_tn, is_bb, tr_non, tr_bl, tr_int, tr_str, tr_tup, tr_lst, ty_s, ix_t, ix_l, ix_c, ix_s, it_t, it_l, it_s, it_c, put_nm, put_2, put_3, lim_0, lim_1, lim_2, lim_3, lim_4, lim_5, lim_9, if_true, rbind_ok, rbind_ex, out_ok, out_ex, then_nx, then_rt, then_ex, of_some, frz_val, frz_own, cr_nx, cr_rt, cr_ex, get_zero, get_succ, Env.put, Option.map_some, Option.map_none, Option.bind_some, startE, List.map_cons, List.map_nil, List.length_cons, List.length_nil, List.cons_append, List.nil_append, List.replicate_succ, List.replicate_zero, List.set_cons_zero, List.set_cons_succ, Nat.reduceAdd, Nat.reduceSub, Nat.zero_add, hw])
  simp only [hc, ev_cst, ev_var, ev_take, ev_fz, ev_glb, ev_tup, ev_lst, ev_bin, ev_neg, ev_not, ev_and, ev_or, ev_ite, ev_cmp, ev_cmp2, ev_idx, ev_slc, ev_call, ev_callv, ev_bi, ev_biP, ev_mt, ev_mtP, ev_isi, evs_nil, evs_cons, evo_non, evo_som, evi_of, evi_rg1, evi_rg2, evi_enum, evi_zip, xs_pass, xs_asg, xs_own, xs_asgT, xs_ite, xs_ret, xs_retN, xs_expr, xs_raise, xs_app, xs_tr, xss_nil, xss_cons, bi_len_s, bi_len_t, bi_len_l, bi_len_c, bi_abs_i, bi_int_i, bi_tup_t, bi_tup_l, bi_lst_t, bi_lst_l, bi_all_l, bi_any_l, op_add_i, op_sub_i, op_mul_i, op_div_i, op_mod_i, op_add_s, cm_lt_i, cm_le_i, cm_gt_i, cm_ge_i, ci_lt_i, ci_le_i, cm_eq, cm_ne, cm_in, cm_nin, cm_is, cm_isn, is_nn, is_bn, is_in, is_sn, is_tn, is_bb, tr_non, tr_bl, tr_int, tr_str, tr_tup, tr_lst, ty_s, ix_t, ix_l, ix_c, ix_s, it_t, it_l, it_s, it_c, put_nm, put_2, put_3, lim_0, lim_1, lim_2, lim_3, lim_4, lim_5, lim_9, if_true, rbind_ok, rbind_ex, out_ok, out_ex, then_nx, then_rt, then_ex, of_some, frz_val, frz_own, cr_nx, cr_rt, cr_ex, get_zero, get_succ, Env.put, Option.map_some, Option.map_none, Option.bind_some, startE, List.map_cons, List.map_nil, List.length_cons, List.length_nil, List.cons_append, List.nil_append, List.replicate_succ, List.replicate_zero, List.set_cons_zero, List.set_cons_succ, Nat.reduceAdd, Nat.reduceSub, Nat.zero_add, allOf_bl, List.all_map, Function.comp_def, id]
  have hp := repl_ok (pl a) (by omega)
  have hq := words_ok (rp (pl a)) (rp_len (pl a) (by omega))
  unfold lw
  cases h : (pl a).all okc with
  | false => simp only [ev_cst, ev_var, ev_take, ev_fz, ev_glb, ev_tup, ev_lst, ev_bin, ev_neg, ev_not, ev_and, ev_or, ev_ite, ev_cmp, ev_cmp2, ev_idx, ev_slc, ev_call, ev_callv, ev_bi, ev_biP, ev_mt, ev_mtP, ev_isi, evs_nil, evs_cons, evo_non, evo_som, evi_of, evi_rg1, evi_rg2, evi_enum, evi_zip, xs_pass, xs_asg, xs_own, xs_asgT, xs_ite, xs_ret, xs_retN, xs_expr, xs_raise, xs_app, xs_tr, xss_nil, xss_cons, bi_len_s, bi_len_t, bi_len_l, bi_len_c, bi_abs_i, bi_int_i, bi_tup_t, bi_tup_l, bi_lst_t, bi_lst_l, bi_all_l, bi_any_l, op_add_i, op_sub_i, op_mul_i, op_div_i, op_mod_i, op_add_s, cm_lt_i, cm_le_i, cm_gt_i, cm_ge_i, ci_lt_i, ci_le_i, cm_eq, cm_ne, cm_in, cm_nin, cm_is, cm_isn, is_nn, is_bn, is_in, is_sn, is_tn, is_bb, tr_non, tr_bl, tr_int, tr_str, tr_tup, tr_lst, ty_s, ix_t, ix_l, ix_c, ix_s, it_t, it_l, it_s, it_c, put_nm, put_2, put_3, lim_0, lim_1, lim_2, lim_3, lim_4, lim_5, lim_9, if_true, rbind_ok, rbind_ex, out_ok, out_ex, then_nx, then_rt, then_ex, of_some, frz_val, frz_own, cr_nx, cr_rt, cr_ex, get_zero, get_succ, Env.put, Option.map_some, Option.map_none, Option.bind_some, startE, List.map_cons, List.map_nil, List.length_cons, List.length_nil, List.cons_append, List.nil_append, List.replicate_succ, List.replicate_zero, List.set_cons_zero, List.set_cons_succ, Nat.reduceAdd, Nat.reduceSub, Nat.zero_add, Bool.not_false, Bool.false_eq_true, if_false]
  | true =>
    simp only [ev_cst, ev_var, ev_take, ev_fz, ev_glb, ev_tup, ev_lst, ev_bin, ev_neg, ev_not, ev_and, ev_or, ev_ite, ev_cmp, ev_cmp2, ev_idx, ev_slc, ev_call, ev_callv, ev_bi, ev_biP, ev_mt, ev_mtP, ev_isi, evs_nil, evs_cons, evo_non, evo_som, evi_of, evi_rg1, evi_rg2, evi_enum, evi_zip, xs_pass, xs_asg, xs_own, xs_asgT, xs_ite, xs_ret, xs_retN, xs_expr, xs_raise, xs_app, xs_tr, xss_nil, xss_cons, bi_len_s, bi_len_t, bi_len_l, bi_len_c, bi_abs_i, bi_int_i, bi_tup_t, bi_tup_l, bi_lst_t, bi_lst_l, bi_all_l, bi_any_l, op_add_i, op_sub_i, op_mul_i, op_div_i, op_mod_i, op_add_s, cm_lt_i, cm_le_i, cm_gt_i, cm_ge_i, ci_lt_i, ci_le_i, cm_eq, cm_ne, cm_in, cm_nin, cm_is, cm_isn, is_nn, is_bn, is_in, is_sn, is_tn, is_bb, tr_non, tr_bl, tr_int, tr_str, tr_tup, tr_lst, ty_s, ix_t, ix_l, ix_c, ix_s, it_t, it_l, it_s, it_c, put_nm, put_2, put_3, lim_0, lim_1, lim_2, lim_3, lim_4, lim_5, lim_9, if_true, rbind_ok, rbind_ex, out_ok, out_ex, then_nx, then_rt, then_ex, of_some, frz_val, frz_own, cr_nx, cr_rt, cr_ex, get_zero, get_succ, Env.put, Option.map_some, Option.map_none, Option.bind_some, startE, List.map_cons, List.map_nil, List.length_cons, List.length_nil, List.cons_append, List.nil_append, List.replicate_succ, List.replicate_zero, List.set_cons_zero, List.set_cons_succ, Nat.reduceAdd, Nat.reduceSub, Nat.zero_add, Bool.not_true, if_true, hp.1, hp.2, hq]
    rfl
end K79

set_option Elab.async false
set_option linter.all false
set_option maxRecDepth 100000
namespace K79
open Bw PySem PySem.Spec PyProof.Rows L2
theorem str_isi : L2.kitB "str" "str" = some true := by decide
theorem in10 {a : List Nat} (h10 : 10 ∉ a) : D.isin (.str [10]) (.str a) = some false := by rw [isin_str]; simp [h10]
theorem c_line_remark (n : Nat) (a : List Nat) (h10 : 10 ∉ a) : G (n + 1) "line_remark" [.str a] = .ok (.val (lr a)) := by
  rw [G, Lv_eq (b := f_line_remark) (by kernel_rfl) rfl]
  simp only [f_line_remark, b_line_remark, ev_cst, ev_var, ev_take, ev_fz, ev_glb, ev_tup, ev_lst, ev_bin, ev_neg, ev_not, ev_and, ev_or, ev_ite, ev_cmp, ev_cmp2, ev_idx, ev_slc, ev_call, ev_callv, ev_bi, ev_biP, ev_mt, ev_mtP, ev_isi, evs_nil, evs_cons, evo_non, evo_som, evi_of, evi_rg1, evi_rg2, evi_enum, evi_zip, xs_pass, xs_asg, xs_own, xs_asgT, xs_ite, xs_ret, xs_retN, xs_expr, xs_raise, xs_app, xs_tr, xss_nil, xss_cons, bi_len_s, bi_len_t, bi_len_l, bi_len_c, bi_abs_i, bi_int_i, bi_tup_t, bi_tup_l, bi_lst_t, bi_lst_l, bi_all_l, bi_any_l, op_add_i, op_sub_i, op_mul_i, op_div_i, op_mod_i, op_add_s, cm_lt_i, cm_le_i, cm_gt_i, cm_ge_i, ci_lt_i, ci_le_i, cm_eq, cm_ne, cm_in, cm_nin, cm_is, cm_isn, is_nn, is_bn, is_in, is_sn, is_tn, is_bb, tr_non, tr_bl, tr_int, tr_str, tr_tup, tr_lst, ty_s, ix_t, ix_l, ix_c, ix_s, it_t, it_l, it_s, it_c, put_nm, put_2, put_3, lim_0, lim_1, lim_2, lim_3, lim_4, lim_5, lim_9, if_true, rbind_ok, rbind_ex, out_ok, out_ex, then_nx, then_rt, then_ex, of_some, frz_val, frz_own, cr_nx, cr_rt, cr_ex, get_zero, get_succ, Env.put, Option.map_some, Option.map_none, Option.bind_some, startE, List.map_cons, List.map_nil, List.length_cons, List.length_nil, List.cons_append, List.nil_append, List.replicate_succ, List.replicate_zero, List.set_cons_zero, List.set_cons_succ, Nat.reduceAdd, Nat.reduceSub, Nat.zero_add, in10 h10, str_isi, Bool.not_true, Bool.not_false, Mt.run, find1]
  unfold lr
  by_cases h : 35 ∈ a
  · have h2 : ¬ ((idx 35 a : Nat) : Int) < 0 := by omega
    have h3 : ((idx 35 a : Nat) : Int) + 1 = ((idx 35 a + 1 : Nat) : Int) := by omega
    simp only [if_pos h, h2, decide_false, ev_cst, ev_var, ev_take, ev_fz, ev_glb, ev_tup, ev_lst, ev_bin, ev_neg, ev_not, ev_and, ev_or, ev_ite, ev_cmp, ev_cmp2, ev_idx, ev_slc, ev_call, ev_callv, ev_bi, ev_biP, ev_mt, ev_mtP, ev_isi, evs_nil, evs_cons, evo_non, evo_som, evi_of, evi_rg1, evi_rg2, evi_enum, evi_zip, xs_pass, xs_asg, xs_own, xs_asgT, xs_ite, xs_ret, xs_retN, xs_expr, xs_raise, xs_app, xs_tr, xss_nil, xss_cons, bi_len_s, bi_len_t, bi_len_l, bi_len_c, bi_abs_i, bi_int_i, bi_tup_t, bi_tup_l, bi_lst_t, bi_lst_l, bi_all_l, bi_any_l, op_add_i, op_sub_i, op_mul_i, op_div_i, op_mod_i, op_add_s, cm_lt_i, cm_le_i, cm_gt_i, cm_ge_i, ci_lt_i, ci_le_i, cm_eq, cm_ne, cm_in, cm_nin, cm_is, cm_isn, is_nn, is_bn, is_in, is_sn, is_tn, is_bb, tr_non, tr_bl, tr_int, tr_str, tr_tup, tr_lst, ty_s, ix_t, ix_l, ix_c, ix_s, it_t, it_l, it_s, it_c, put_nm, put_2, put_3, lim_0, lim_1, lim_2, lim_3, lim_4, lim_5, lim_9, if_true, rbind_ok, rbind_ex, out_ok, out_ex, then_nx, then_rt, then_ex, of_some, frz_val, frz_own, cr_nx, cr_rt, cr_ex, get_zero, get_succ, Env.put, Option.map_some, Option.map_none, Option.bind_some, startE, List.map_cons, List.map_nil, List.length_cons, List.length_nil, List.cons_append, List.nil_append, List.replicate_succ, List.replicate_zero, List.set_cons_zero, List.set_cons_succ, Nat.reduceAdd, Nat.reduceSub, Nat.zero_add, h3, slc_from (idx_le h)]
  · simp only [if_neg h, ev_cst, ev_var, ev_take, ev_fz, ev_glb, ev_tup, ev_lst, ev_bin, ev_neg, ev_not, ev_and, ev_or, ev_ite, ev_cmp, ev_cmp2, ev_idx, ev_slc, ev_call, ev_callv, ev_bi, ev_biP, ev_mt, ev_mtP, ev_isi, evs_nil, evs_cons, evo_non, evo_som, evi_of, evi_rg1, evi_rg2, evi_enum, evi_zip, xs_pass, xs_asg, xs_own, xs_asgT, xs_ite, xs_ret, xs_retN, xs_expr, xs_raise, xs_app, xs_tr, xss_nil, xss_cons, bi_len_s, bi_len_t, bi_len_l, bi_len_c, bi_abs_i, bi_int_i, bi_tup_t, bi_tup_l, bi_lst_t, bi_lst_l, bi_all_l, bi_any_l, op_add_i, op_sub_i, op_mul_i, op_div_i, op_mod_i, op_add_s, cm_lt_i, cm_le_i, cm_gt_i, cm_ge_i, ci_lt_i, ci_le_i, cm_eq, cm_ne, cm_in, cm_nin, cm_is, cm_isn, is_nn, is_bn, is_in, is_sn, is_tn, is_bb, tr_non, tr_bl, tr_int, tr_str, tr_tup, tr_lst, ty_s, ix_t, ix_l, ix_c, ix_s, it_t, it_l, it_s, it_c, put_nm, put_2, put_3, lim_0, lim_1, lim_2, lim_3, lim_4, lim_5, lim_9, if_true, rbind_ok, rbind_ex, out_ok, out_ex, then_nx, then_rt, then_ex, of_some, frz_val, frz_own, cr_nx, cr_rt, cr_ex, get_zero, get_succ, Env.put, Option.map_some, Option.map_none, Option.bind_some, startE, List.map_cons, List.map_nil, List.length_cons, List.length_nil, List.cons_append, List.nil_append, List.replicate_succ, List.replicate_zero, List.set_cons_zero, List.set_cons_succ, Nat.reduceAdd, Nat.reduceSub, Nat.zero_add]
    rfl
theorem spl1 (c : Nat) : ∀ (acc a : List Nat), c ∉ a → TL.spl [c] 0 acc a = [acc ++ a]
  | acc, [], _ => by rw [TL.spl_nil]; simp
  | acc, d :: a, h => by
    have hd : d ≠ c := fun e => h (e ▸ List.mem_cons_self)
    rw [TL.spl_miss (TL.pre_of_head [] a hd), spl1 c (acc ++ [d]) a fun z => h (List.mem_cons_of_mem _ z)]
    simp
theorem spl2 (c : Nat) : ∀ (acc a b : List Nat), c ∉ a → TL.spl [c] 0 acc (a ++ c :: b) = (acc ++ a) :: TL.spl [c] 0 [] b
  | acc, [], b, _ => by
    rw [List.nil_append, TL.spl_hit (show TL.pre [c] (c :: b) = true from TL.pre_self [c] b), List.append_nil]
    rfl
  | acc, d :: a, b, h => by
    have hd : d ≠ c := fun e => h (e ▸ List.mem_cons_self)
    rw [List.cons_append, TL.spl_miss (TL.pre_of_head [] _ hd), spl2 c (acc ++ [d]) a b fun z => h (List.mem_cons_of_mem _ z)]
    simp
theorem split_run (a : List Nat) (c : Nat) (hc : c < 256) (hl : a.length ≤ 100000) : Mt.run .split (.str a) [.str [c]] = some (.own ((TL.spl [c] 0 [] a).map .str)) := by
  have e : (Txt.split (sOf a) (sOf [c])).map TL.tl = TL.spl [c] 0 [] a := TL.split_spl (sOf a) (sOf [c]) (by simp [TL.tl, sOf]) (TL.kind_ok (by simp [sOf, hc]))
  show (if ([c] : List Nat).length ≠ 0 ∧ a.length + 2 ≤ LIM then some (Cell.own ((Txt.split (sOf a) (sOf [c])).map fun x => .str (TL.tl x))) else none) = _
  rw [if_pos ⟨by simp, by simp only [LIM]; omega⟩, ← e, List.map_map]
  rfl
theorem mem_while {p : Nat → Bool} : ∀ {a : List Nat} {x : Nat}, x ∈ a.takeWhile p → p x = true
  | [], _, h => by cases h
  | d :: a, x, h => by
    rw [List.takeWhile_cons] at h
    split at h
    · rename_i hd
      rcases List.mem_cons.mp h with e | h
      · rw [e]; exact hd
      · exact mem_while h
    · cases h
/-- a, cut at its first # -/
theorem cut35 (a : List Nat) : a = pl a ++ a.drop (pl a).length ∧ (35 ∈ a → ∃ b, a = pl a ++ 35 :: b) ∧ 35 ∉ pl a := by
  have h1 : pl a ++ a.dropWhile (· != 35) = a := List.takeWhile_append_dropWhile
  refine ⟨?_, fun h => ?_, fun h => ?_⟩
  · have e : a.drop (pl a).length = a.dropWhile (· != 35) := by
      have q : (pl a ++ a.dropWhile (· != 35)).drop (pl a).length = a.dropWhile (· != 35) := by simp
      rw [h1] at q
      exact q
    rw [e, h1]
  · cases e : a.dropWhile (· != 35) with
    | nil =>
      rw [e, List.append_nil] at h1
      have : 35 ∈ pl a := by rw [h1]; exact h
      exact absurd (mem_while this) (by simp)
    | cons d b =>
      have hd : (d != 35) = false := by
        have := List.head?_dropWhile_not (· != 35) a
        rw [e] at this
        simpa using this
      have : d = 35 := by simpa using hd
      subst this
      rw [e] at h1
      exact ⟨b, h1.symm⟩
  · exact absurd (mem_while h) (by simp)
theorem spl_head (a : List Nat) : ∃ r, TL.spl [35] 0 [] a = pl a :: r := by
  by_cases h : 35 ∈ a
  · obtain ⟨b, e⟩ := (cut35 a).2.1 h
    refine ⟨TL.spl [35] 0 [] b, ?_⟩
    conv => lhs; rw [e]
    rw [spl2 35 [] (pl a) b (cut35 a).2.2]
    simp
  · refine ⟨[], ?_⟩
    rw [spl1 35 [] a h]
    unfold pl
    rw [while_none h]
    simp
theorem atI_head {α : Type} (x : α) (l : List α) : L2.atI (x :: l) 0 = some x := by
  unfold L2.atI L2.ixN
  simp
theorem okc_in (c : Nat) : D.isin (.str [c]) (.str [97, 98, 99, 100, 101, 102, 103, 104, 105, 106, 107, 108, 109, 110, 111, 112, 113, 114, 115, 116, 117, 118, 119, 120, 121, 122, 32, 40, 41]) = some (okc c) := by
  rw [isin_str]
  unfold okc letters
  congr 1
  simp only [List.mem_cons, List.not_mem_nil, or_false, Bool.decide_or, Bool.or_assoc]
  rfl
theorem c_parted (n : Nat) (a : List Nat) (hl : a.length ≤ 1000) : G (n + 1) "_law_parted" [.str a] = .ok (.val (lw a)) := by
  rw [G, Lv_eq (b := f__law_parted) (by kernel_rfl) rfl]
  obtain ⟨r, hr⟩ := spl_head a
  simp only [f__law_parted, b__law_parted, ev_cst, ev_var, ev_take, ev_fz, ev_glb, ev_tup, ev_lst, ev_bin, ev_neg, ev_not, ev_and, ev_or, ev_ite, ev_cmp, ev_cmp2, ev_idx, ev_slc, ev_call, ev_callv, ev_bi, ev_biP, ev_mt, ev_mtP, ev_isi, evs_nil, evs_cons, evo_non, evo_som, evi_of, evi_rg1, evi_rg2, evi_enum, evi_zip, xs_pass, xs_asg, xs_own, xs_asgT, xs_ite, xs_ret, xs_retN, xs_expr, xs_raise, xs_app, xs_tr, xss_nil, xss_cons, bi_len_s, bi_len_t, bi_len_l, bi_len_c, bi_abs_i, bi_int_i, bi_tup_t, bi_tup_l, bi_lst_t, bi_lst_l, bi_all_l, bi_any_l, op_add_i, op_sub_i, op_mul_i, op_div_i, op_mod_i, op_add_s, cm_lt_i, cm_le_i, cm_gt_i, cm_ge_i, ci_lt_i, ci_le_i, cm_eq, cm_ne, cm_in, cm_nin, cm_is, cm_isn, is_nn, is_bn, is_in, is_sn, is_tn, is_bb, tr_non, tr_bl, tr_int, tr_str, tr_tup, tr_lst, ty_s, ix_t, ix_l, ix_c, ix_s, it_t, it_l, it_s, it_c, put_nm, put_2, put_3, lim_0, lim_1, lim_2, lim_3, lim_4, lim_5, lim_9, if_true, rbind_ok, rbind_ex, out_ok, out_ex, then_nx, then_rt, then_ex, of_some, frz_val, frz_own, cr_nx, cr_rt, cr_ex, get_zero, get_succ, Env.put, Option.map_some, Option.map_none, Option.bind_some, startE, List.map_cons, List.map_nil, List.length_cons, List.length_nil, List.cons_append, List.nil_append, List.replicate_succ, List.replicate_zero, List.set_cons_zero, List.set_cons_succ, Nat.reduceAdd, Nat.reduceSub, Nat.zero_add, split_run a 35 (by omega) (by omega), hr, atI_head]
  have hpl := pl_len a
  have hc := comp_okS (Γ := Lv md.T md.sb md.F n) (i := 2) (e := .cmp .notin (.var 2) (.cst (.str [97, 98, 99, 100, 101, 102, 103, 104, 105, 106, 107, 108, 109, 110, 111, 112, 113, 114, 115, 116, 117, 118, 119, 120, 121, 122, 32, 40, 41]))) (it := .of (.var 1)) (ρ := [some (.val (.str a)), some (.val (.str (pl a))), none]) (a := pl a) (b := fun c => !okc c) (by simp only [ev_cst, ev_var, ev_take, ev_fz, ev_glb, ev_tup, ev_lst, ev_bin, ev_neg, ev_not, ev_and, ev_or, ev_ite, ev_cmp, ev_cmp2, ev_idx, ev_slc, ev_call, ev_callv, ev_bi, ev_biP, ev_mt, ev_mtP, ev_isi, evs_nil, evs_cons, evo_non, evo_som, evi_of, evi_rg1, evi_rg2, evi_enum, evi_zip, xs_pass, xs_asg, xs_own, xs_asgT, xs_ite, xs_ret, xs_retN, xs_expr, xs_raise, xs_app, xs_tr, xss_nil, xss_cons, bi_len_s, bi_len_t, bi_len_l, bi_len_c, bi_abs_i, bi_int_i, bi_tup_t, bi_tup_l, bi_lst_t, bi_lst_l, bi_all_l, bi_any_l, op_add_i, op_sub_i, op_mul_i, op_div_i, op_mod_i, op_add_s, cm_lt_i, cm_le_i, cm_gt_i, cm_ge_i, ci_lt_i, ci_le_i, cm_eq, cm_ne, cm_in, cm_nin, cm_is, cm_isn, is_nn, is_bn, is_in, is_sn, is_tn, is_bb, tr_non, tr_bl, tr_int, tr_str, tr_tup, tr_lst, ty_s, ix_t, ix_l, ix_c, ix_s, it_t, it_l, it_s, it_c, put_nm, put_2, put_3, lim_0, lim_1, lim_2, lim_3, lim_4, lim_5, lim_9, if_true, rbind_ok, rbind_ex, out_ok, out_ex, then_nx, then_rt, then_ex, of_some, frz_val, frz_own, cr_nx, cr_rt, cr_ex, get_zero, get_succ, Env.put, Option.map_some, Option.map_none, Option.bind_some, startE, List.map_cons, List.map_nil, List.length_cons, List.length_nil, List.cons_append, List.nil_append, List.replicate_succ, List.replicate_zero, List.set_cons_zero, List.set_cons_succ, Nat.reduceAdd, Nat.reduceSub, Nat.zero_add]) rfl (by omega) (fun c => by
      simp only [ev_cst, ev_var, ev_take, ev_fz, ev_glb, ev_tup, ev_lst, ev_bin, ev_neg, ev_not, ev_and, ev_or, ev_ite, ev_cmp, ev_cmp2, ev_idx, ev_slc, ev_call, ev_callv, ev_bi, ev_biP, ev_mt, ev_mtP, ev_isi, evs_nil, evs_cons, evo_non, evo_som, evi_of, evi_rg1, evi_rg2, evi_enum, evi_zip, xs_pass, xs_asg, xs_own, xs_asgT, xs_ite, xs_ret, xs_retN, xs_expr, xs_raise, xs_app, xs_tr, xss_nil, xss_cons, bi_len_s, bi_len_t, bi_len_l, bi_len_c, bi_abs_i, bi_int_i, bi_tup_t, bi_tup_l, bi_lst_t, bi_lst_l, bi_all_l, bi_any_l, op_add_i, op_sub_i, op_mul_i, op_div_i, op_mod_i, op_add_s, cm_lt_i, cm_le_i, cm_gt_i, cm_ge_i, ci_lt_i, ci_le_i, cm_eq, cm_ne, cm_in, cm_nin, cm_is, cm_isn, is_nn, is_bn, is_in, is_sn, is_tn, is_bb, tr_non, tr_bl, tr_int, tr_str, tr_tup, tr_lst, ty_s, ix_t, ix_l, ix_c, ix_s, it_t, it_l, it_s, it_c, put_nm, put_2, put_3, lim_0, lim_1, lim_2, lim_3, lim_4, lim_5, lim_9, if_true, rbind_ok, rbind_ex, out_ok, out_ex, then_nx, then_rt, then_ex, of_some, frz_val, frz_own, cr_nx, cr_rt, cr_ex, get_zero, get_succ, Env.put, Option.map_some, Option.map_none, Option.bind_some, startE, List.map_cons, List.map_nil, List.length_cons, List.length_nil, List.cons_append, List.nil_append, List.replicate_succ, List.replicate_zero, List.set_cons_zero, List.set_cons_succ, Nat.reduceAdd, Nat.reduceSub, Nat.zero_add, okc_in])
  simp only [hc, ev_cst, ev_var, ev_take, ev_fz, ev_glb, ev_tup, ev_lst, ev_bin, ev_neg, ev_not, ev_and, ev_or, ev_ite, ev_cmp, ev_cmp2, ev_idx, ev_slc, ev_call, ev_callv, ev_bi, ev_biP, ev_mt, ev_mtP, ev_isi, evs_nil, evs_cons, evo_non, evo_som, evi_of, evi_rg1, evi_rg2, evi_enum, evi_zip, xs_pass, xs_asg, xs_own, xs_asgT, xs_ite, xs_ret, xs_retN, xs_expr, xs_raise, xs_app, xs_tr, xss_nil, xss_cons, bi_len_s, bi_len_t, bi_len_l, bi_len_c, bi_abs_i, bi_int_i, bi_tup_t, bi_tup_l, bi_lst_t, bi_lst_l, bi_all_l, bi_any_l, op_add_i, op_sub_i, op_mul_i, op_div_i, op_mod_i, op_add_s, cm_lt_i, cm_le_i, cm_gt_i, cm_ge_i, ci_lt_i, ci_le_i, cm_eq, cm_ne, cm_in, cm_nin, cm_is, cm_isn, is_nn, is_bn, is_in, is_sn, is_tn, is_bb, tr_non, tr_bl, tr_int, tr_str, tr_tup, tr_lst, ty_s, ix_t, ix_l, ix_c, ix_s, it_t, it_l, it_s, it_c, put_nm, put_2, put_3, lim_0, lim_1, lim_2, lim_3, lim_4, lim_5, lim_9, if_true, rbind_ok, rbind_ex, out_ok, out_ex, then_nx, then_rt, then_ex, of_some, frz_val, frz_own, cr_nx, cr_rt, cr_ex, get_zero, get_succ, Env.put, Option.map_some, Option.map_none, Option.bind_some, startE, List.map_cons, List.map_nil, List.length_cons, List.length_nil, List.cons_append, List.nil_append, List.replicate_succ, List.replicate_zero, List.set_cons_zero, List.set_cons_succ, Nat.reduceAdd, Nat.reduceSub, Nat.zero_add, allOf_bl, List.any_map, Function.comp_def, id]
  have hp := repl_ok (pl a) (by omega)
  have hq := words_ok (rp (pl a)) (rp_len (pl a) (by omega))
  have hb : ((pl a).any fun x => !okc x) = !(pl a).all okc := by
    rw [List.not_all_eq_any_not]
  rw [hb]
  unfold lw
  cases h : (pl a).all okc with
  | false => simp only [ev_cst, ev_var, ev_take, ev_fz, ev_glb, ev_tup, ev_lst, ev_bin, ev_neg, ev_not, ev_and, ev_or, ev_ite, ev_cmp, ev_cmp2, ev_idx, ev_slc, ev_call, ev_callv, ev_bi, ev_biP, ev_mt, ev_mtP, ev_isi, evs_nil, evs_cons, evo_non, evo_som, evi_of, evi_rg1, evi_rg2, evi_enum, evi_zip, xs_pass, xs_asg, xs_own, xs_asgT, xs_ite, xs_ret, xs_retN, xs_expr, xs_raise, xs_app, xs_tr, xss_nil, xss_cons, bi_len_s, bi_len_t, bi_len_l, bi_len_c, bi_abs_i, bi_int_i, bi_tup_t, bi_tup_l, bi_lst_t, bi_lst_l, bi_all_l, bi_any_l, op_add_i, op_sub_i, op_mul_i, op_div_i, op_mod_i, op_add_s, cm_lt_i, cm_le_i, cm_gt_i, cm_ge_i, ci_lt_i, ci_le_i, cm_eq, cm_ne, cm_in, cm_nin, cm_is, cm_isn, is_nn, is_bn, is_in, is_sn, is_tn, is_bb, tr_non, tr_bl, tr_int, tr_str, tr_tup, tr_lst, ty_s, ix_t, ix_l, ix_c, ix_s, it_t, it_l, it_s, it_c, put_nm, put_2, put_3, lim_0, lim_1, lim_2, lim_3, lim_4, lim_5, lim_9, if_true, rbind_ok, rbind_ex, out_ok, out_ex, then_nx, then_rt, then_ex, of_some, frz_val, frz_own, cr_nx, cr_rt, cr_ex, get_zero, get_succ, Env.put, Option.map_some, Option.map_none, Option.bind_some, startE, List.map_cons, List.map_nil, List.length_cons, List.length_nil, List.cons_append, List.nil_append, List.replicate_succ, List.replicate_zero, List.set_cons_zero, List.set_cons_succ, Nat.reduceAdd, Nat.reduceSub, Nat.zero_add, Bool.not_false, Bool.false_eq_true, if_false]
  | true =>
    simp only [ev_cst, ev_var, ev_take, ev_fz, ev_glb, ev_tup, ev_lst, ev_bin, ev_neg, ev_not, ev_and, ev_or, ev_ite, ev_cmp, ev_cmp2, ev_idx, ev_slc, ev_call, ev_callv, ev_bi, ev_biP, ev_mt, ev_mtP, ev_isi, evs_nil, evs_cons, evo_non, evo_som, evi_of, evi_rg1, evi_rg2, evi_enum, evi_zip, xs_pass, xs_asg, xs_own, xs_asgT, xs_ite, xs_ret, xs_retN, xs_expr, xs_raise, xs_app, xs_tr, xss_nil, xss_cons, bi_len_s, bi_len_t, bi_len_l, bi_len_c, bi_abs_i, bi_int_i, bi_tup_t, bi_tup_l, bi_lst_t, bi_lst_l, bi_all_l, bi_any_l, op_add_i, op_sub_i, op_mul_i, op_div_i, op_mod_i, op_add_s, cm_lt_i, cm_le_i, cm_gt_i, cm_ge_i, ci_lt_i, ci_le_i, cm_eq, cm_ne, cm_in, cm_nin, cm_is, cm_isn, is_nn, is_bn, is_in, is_sn, is_tn, is_bb, tr_non, tr_bl, tr_int, tr_str, tr_tup, tr_lst, ty_s, ix_t, ix_l, ix_c, ix_s, it_t, it_l, it_s, it_c, put_nm, put_2, put_3, lim_0, lim_1, lim_2, lim_3, lim_4, lim_5, lim_9, if_true, rbind_ok, rbind_ex, out_ok, out_ex, then_nx, then_rt, then_ex, of_some, frz_val, frz_own, cr_nx, cr_rt, cr_ex, get_zero, get_succ, Env.put, Option.map_some, Option.map_none, Option.bind_some, startE, List.map_cons, List.map_nil, List.length_cons, List.length_nil, List.cons_append, List.nil_append, List.replicate_succ, List.replicate_zero, List.set_cons_zero, List.set_cons_succ, Nat.reduceAdd, Nat.reduceSub, Nat.zero_add, Bool.not_true, if_true, hp.1, hp.2, hq]
    rfl
theorem index_run (a : List Nat) (h : 35 ∈ a) : Mt.run .index (.str a) [.str [35]] = some (.val (.int (idx 35 a : Nat))) := by
  have f := find1 a 35
  rw [if_pos h] at f
  have e : (sOf a).length = a.length := by simp [sOf, Str.length]
  unfold Txt.find at f
  rw [e] at f
  show (match Builtin.Str.occurrences (sOf a) (sOf [35]) 0 a.length 1 with
    | i :: _ => some (Cell.val (.int (i : Nat)))
    | [] => none) = _
  split at f
  · rename_i i t q
    rw [q]
    simp only [f]
  · omega
theorem c_noted (n : Nat) (a : List Nat) : G (n + 1) "_law_noted" [.str a] = .ok (.val (lr a)) := by
  rw [G, Lv_eq (b := f__law_noted) (by kernel_rfl) rfl]
  simp only [f__law_noted, b__law_noted, ev_cst, ev_var, ev_take, ev_fz, ev_glb, ev_tup, ev_lst, ev_bin, ev_neg, ev_not, ev_and, ev_or, ev_ite, ev_cmp, ev_cmp2, ev_idx, ev_slc, ev_call, ev_callv, ev_bi, ev_biP, ev_mt, ev_mtP, ev_isi, evs_nil, evs_cons, evo_non, evo_som, evi_of, evi_rg1, evi_rg2, evi_enum, evi_zip, xs_pass, xs_asg, xs_own, xs_asgT, xs_ite, xs_ret, xs_retN, xs_expr, xs_raise, xs_app, xs_tr, xss_nil, xss_cons, bi_len_s, bi_len_t, bi_len_l, bi_len_c, bi_abs_i, bi_int_i, bi_tup_t, bi_tup_l, bi_lst_t, bi_lst_l, bi_all_l, bi_any_l, op_add_i, op_sub_i, op_mul_i, op_div_i, op_mod_i, op_add_s, cm_lt_i, cm_le_i, cm_gt_i, cm_ge_i, ci_lt_i, ci_le_i, cm_eq, cm_ne, cm_in, cm_nin, cm_is, cm_isn, is_nn, is_bn, is_in, is_sn, is_tn, is_bb, tr_non, tr_bl, tr_int, tr_str, tr_tup, tr_lst, ty_s, ix_t, ix_l, ix_c, ix_s, it_t, it_l, it_s, it_c, put_nm, put_2, put_3, lim_0, lim_1, lim_2, lim_3, lim_4, lim_5, lim_9, if_true, rbind_ok, rbind_ex, out_ok, out_ex, then_nx, then_rt, then_ex, of_some, frz_val, frz_own, cr_nx, cr_rt, cr_ex, get_zero, get_succ, Env.put, Option.map_some, Option.map_none, Option.bind_some, startE, List.map_cons, List.map_nil, List.length_cons, List.length_nil, List.cons_append, List.nil_append, List.replicate_succ, List.replicate_zero, List.set_cons_zero, List.set_cons_succ, Nat.reduceAdd, Nat.reduceSub, Nat.zero_add, isin_str]
  unfold lr
  by_cases h : 35 ∈ a
  · have h3 : ((idx 35 a : Nat) : Int) + 1 = ((idx 35 a + 1 : Nat) : Int) := by omega
    simp only [h, decide_true, ev_cst, ev_var, ev_take, ev_fz, ev_glb, ev_tup, ev_lst, ev_bin, ev_neg, ev_not, ev_and, ev_or, ev_ite, ev_cmp, ev_cmp2, ev_idx, ev_slc, ev_call, ev_callv, ev_bi, ev_biP, ev_mt, ev_mtP, ev_isi, evs_nil, evs_cons, evo_non, evo_som, evi_of, evi_rg1, evi_rg2, evi_enum, evi_zip, xs_pass, xs_asg, xs_own, xs_asgT, xs_ite, xs_ret, xs_retN, xs_expr, xs_raise, xs_app, xs_tr, xss_nil, xss_cons, bi_len_s, bi_len_t, bi_len_l, bi_len_c, bi_abs_i, bi_int_i, bi_tup_t, bi_tup_l, bi_lst_t, bi_lst_l, bi_all_l, bi_any_l, op_add_i, op_sub_i, op_mul_i, op_div_i, op_mod_i, op_add_s, cm_lt_i, cm_le_i, cm_gt_i, cm_ge_i, ci_lt_i, ci_le_i, cm_eq, cm_ne, cm_in, cm_nin, cm_is, cm_isn, is_nn, is_bn, is_in, is_sn, is_tn, is_bb, tr_non, tr_bl, tr_int, tr_str, tr_tup, tr_lst, ty_s, ix_t, ix_l, ix_c, ix_s, it_t, it_l, it_s, it_c, put_nm, put_2, put_3, lim_0, lim_1, lim_2, lim_3, lim_4, lim_5, lim_9, if_true, rbind_ok, rbind_ex, out_ok, out_ex, then_nx, then_rt, then_ex, of_some, frz_val, frz_own, cr_nx, cr_rt, cr_ex, get_zero, get_succ, Env.put, Option.map_some, Option.map_none, Option.bind_some, startE, List.map_cons, List.map_nil, List.length_cons, List.length_nil, List.cons_append, List.nil_append, List.replicate_succ, List.replicate_zero, List.set_cons_zero, List.set_cons_succ, Nat.reduceAdd, Nat.reduceSub, Nat.zero_add, Bool.not_true, index_run a h, h3, slc_from (idx_le h), if_true]
  · simp only [h, decide_false, ev_cst, ev_var, ev_take, ev_fz, ev_glb, ev_tup, ev_lst, ev_bin, ev_neg, ev_not, ev_and, ev_or, ev_ite, ev_cmp, ev_cmp2, ev_idx, ev_slc, ev_call, ev_callv, ev_bi, ev_biP, ev_mt, ev_mtP, ev_isi, evs_nil, evs_cons, evo_non, evo_som, evi_of, evi_rg1, evi_rg2, evi_enum, evi_zip, xs_pass, xs_asg, xs_own, xs_asgT, xs_ite, xs_ret, xs_retN, xs_expr, xs_raise, xs_app, xs_tr, xss_nil, xss_cons, bi_len_s, bi_len_t, bi_len_l, bi_len_c, bi_abs_i, bi_int_i, bi_tup_t, bi_tup_l, bi_lst_t, bi_lst_l, bi_all_l, bi_any_l, op_add_i, op_sub_i, op_mul_i, op_div_i, op_mod_i, op_add_s, cm_lt_i, cm_le_i, cm_gt_i, cm_ge_i, ci_lt_i, ci_le_i, cm_eq, cm_ne, cm_in, cm_nin, cm_is, cm_isn, is_nn, is_bn, is_in, is_sn, is_tn, is_bb, tr_non, tr_bl, tr_int, tr_str, tr_tup, tr_lst, ty_s, ix_t, ix_l, ix_c, ix_s, it_t, it_l, it_s, it_c, put_nm, put_2, put_3, lim_0, lim_1, lim_2, lim_3, lim_4, lim_5, lim_9, if_true, rbind_ok, rbind_ex, out_ok, out_ex, then_nx, then_rt, then_ex, of_some, frz_val, frz_own, cr_nx, cr_rt, cr_ex, get_zero, get_succ, Env.put, Option.map_some, Option.map_none, Option.bind_some, startE, List.map_cons, List.map_nil, List.length_cons, List.length_nil, List.cons_append, List.nil_append, List.replicate_succ, List.replicate_zero, List.set_cons_zero, List.set_cons_succ, Nat.reduceAdd, Nat.reduceSub, Nat.zero_add, Bool.not_false, if_false]
end K79

set_option Elab.async false
set_option linter.all false
set_option maxRecDepth 100000
namespace K79
open Bw PySem PySem.Spec PyProof.Rows L2
/-- lines and what stands behind the last line feed -/
def src : List (List Nat) → List Nat → List Nat
  | [], t => t
  | l :: ls, t => l ++ 10 :: src ls t
def okL (ls : List (List Nat)) : Prop := ls.length ≤ 20 ∧ ∀ l ∈ ls, 10 ∉ l ∧ l.length ≤ 1000
theorem okL.tail {l : List Nat} {ls : List (List Nat)} (h : okL (l :: ls)) : okL ls := ⟨by have := h.1; simp at this; omega, fun x hx => h.2 x (List.mem_cons_of_mem _ hx)⟩
theorem src_len : ∀ {ls : List (List Nat)} {t : List Nat}, (∀ l ∈ ls, l.length ≤ 1000) → (src ls t).length ≤ 1001 * ls.length + t.length
  | [], t, _ => by simp [src]
  | l :: ls, t, h => by
    have h1 := h l List.mem_cons_self
    have h2 := src_len (t := t) fun x hx => h x (List.mem_cons_of_mem _ hx)
    simp only [src, List.length_append, List.length_cons]
    omega
theorem okL.len {ls : List (List Nat)} (h : okL ls) {t : List Nat} (ht : t.length ≤ 1000) : (src ls t).length ≤ 100000 := by
  have := src_len (t := t) fun l hl => (h.2 l hl).2
  have := h.1
  omega
theorem src_spl : ∀ {ls : List (List Nat)} {t : List Nat}, (∀ l ∈ ls, 10 ∉ l) → 10 ∉ t → TL.spl [10] 0 [] (src ls t) = ls ++ [t]
  | [], t, _, ht => by
    simp only [src]
    rw [spl1 10 [] t ht]
    rfl
  | l :: ls, t, h, ht => by
    simp only [src]
    rw [spl2 10 [] l _ (h l List.mem_cons_self), src_spl (fun x hx => h x (List.mem_cons_of_mem _ hx)) ht]
    rfl
theorem slc_last (ds : List D) (x : D) : D.slc (.lst (ds ++ [x])) none (some (-1)) = some (.own ds) := by
  show some (Cell.own (((ds ++ [x]).drop (HT.sIx (ds ++ [x]).length 0 none)).take (HT.sIx (ds ++ [x]).length (ds ++ [x]).length (some (-1)) - HT.sIx (ds ++ [x]).length 0 none))) = _
  have e1 : HT.sIx (ds ++ [x]).length 0 none = 0 := rfl
  have e2 : HT.sIx (ds ++ [x]).length (ds ++ [x]).length (some (-1)) = ds.length := by
    unfold HT.sIx
    simp
    omega
  rw [e1, e2, List.drop_zero, Nat.sub_zero, List.take_left]
theorem c_closed_lines (n : Nat) {ls : List (List Nat)} {t : List Nat} (h : okL ls) (ht : t.length ≤ 1000) (h10 : 10 ∉ t) : G (n + 1) "closed_lines" [.str (src ls t)] = .ok (.own (ls.map .str)) := by
  rw [G, Lv_eq (b := f_closed_lines) (by kernel_rfl) rfl]
  have e : (TL.spl [10] 0 [] (src ls t)).map D.str = ls.map .str ++ [.str t] := by
    rw [src_spl (fun l hl => (h.2 l hl).1) h10, List.map_append]
    rfl
  have hs := split_run (src ls t) 10 (by omega) (h.len ht)
  rw [e] at hs
  simp only [f_closed_lines, b_closed_lines, ev_cst, ev_var, ev_take, ev_fz, ev_glb, ev_tup, ev_lst, ev_bin, ev_neg, ev_not, ev_and, ev_or, ev_ite, ev_cmp, ev_cmp2, ev_idx, ev_slc, ev_call, ev_callv, ev_bi, ev_biP, ev_mt, ev_mtP, ev_isi, evs_nil, evs_cons, evo_non, evo_som, evi_of, evi_rg1, evi_rg2, evi_enum, evi_zip, xs_pass, xs_asg, xs_own, xs_asgT, xs_ite, xs_ret, xs_retN, xs_expr, xs_raise, xs_app, xs_tr, xss_nil, xss_cons, bi_len_s, bi_len_t, bi_len_l, bi_len_c, bi_abs_i, bi_int_i, bi_tup_t, bi_tup_l, bi_lst_t, bi_lst_l, bi_all_l, bi_any_l, op_add_i, op_sub_i, op_mul_i, op_div_i, op_mod_i, op_add_s, cm_lt_i, cm_le_i, cm_gt_i, cm_ge_i, ci_lt_i, ci_le_i, cm_eq, cm_ne, cm_in, cm_nin, cm_is, cm_isn, is_nn, is_bn, is_in, is_sn, is_tn, is_bb, tr_non, tr_bl, tr_int, tr_str, tr_tup, tr_lst, ty_s, ix_t, ix_l, ix_c, ix_s, it_t, it_l, it_s, it_c, put_nm, put_2, put_3, lim_0, lim_1, lim_2, lim_3, lim_4, lim_5, lim_9, if_true, rbind_ok, rbind_ex, out_ok, out_ex, then_nx, then_rt, then_ex, of_some, frz_val, frz_own, cr_nx, cr_rt, cr_ex, get_zero, get_succ, Env.put, Option.map_some, Option.map_none, Option.bind_some, startE, List.map_cons, List.map_nil, List.length_cons, List.length_nil, List.cons_append, List.nil_append, List.replicate_succ, List.replicate_zero, List.set_cons_zero, List.set_cons_succ, Nat.reduceAdd, Nat.reduceSub, Nat.zero_add, str_isi, Bool.not_true, hs, slc_last]
theorem xi_bad (d : D) : md.T.xi "BadLine" [d] = some ⟨"BadLine", some ("line", d)⟩ := by rfl
theorem c_closed_bad (n : Nat) {d : D} {ty : String} (h : d.typ = some ty) (hk : L2.kitB ty "str" = some false) : G (n + 1) "closed_lines" [d] = .ex ⟨"BadLine", some ("line", .int 0)⟩ := by
  rw [G, Lv_eq (b := f_closed_lines) (by kernel_rfl) rfl]
  simp only [f_closed_lines, b_closed_lines, ev_cst, ev_var, ev_take, ev_fz, ev_glb, ev_tup, ev_lst, ev_bin, ev_neg, ev_not, ev_and, ev_or, ev_ite, ev_cmp, ev_cmp2, ev_idx, ev_slc, ev_call, ev_callv, ev_bi, ev_biP, ev_mt, ev_mtP, ev_isi, evs_nil, evs_cons, evo_non, evo_som, evi_of, evi_rg1, evi_rg2, evi_enum, evi_zip, xs_pass, xs_asg, xs_own, xs_asgT, xs_ite, xs_ret, xs_retN, xs_expr, xs_raise, xs_app, xs_tr, xss_nil, xss_cons, bi_len_s, bi_len_t, bi_len_l, bi_len_c, bi_abs_i, bi_int_i, bi_tup_t, bi_tup_l, bi_lst_t, bi_lst_l, bi_all_l, bi_any_l, op_add_i, op_sub_i, op_mul_i, op_div_i, op_mod_i, op_add_s, cm_lt_i, cm_le_i, cm_gt_i, cm_ge_i, ci_lt_i, ci_le_i, cm_eq, cm_ne, cm_in, cm_nin, cm_is, cm_isn, is_nn, is_bn, is_in, is_sn, is_tn, is_bb, tr_non, tr_bl, tr_int, tr_str, tr_tup, tr_lst, ty_s, ix_t, ix_l, ix_c, ix_s, it_t, it_l, it_s, it_c, put_nm, put_2, put_3, lim_0, lim_1, lim_2, lim_3, lim_4, lim_5, lim_9, if_true, rbind_ok, rbind_ex, out_ok, out_ex, then_nx, then_rt, then_ex, of_some, frz_val, frz_own, cr_nx, cr_rt, cr_ex, get_zero, get_succ, Env.put, Option.map_some, Option.map_none, Option.bind_some, startE, List.map_cons, List.map_nil, List.length_cons, List.length_nil, List.cons_append, List.nil_append, List.replicate_succ, List.replicate_zero, List.set_cons_zero, List.set_cons_succ, Nat.reduceAdd, Nat.reduceSub, Nat.zero_add, h, hk, Bool.not_false, xi_bad]
theorem atI_last {α : Type} (l : List α) (x : α) : L2.atI (l ++ [x]) (-1) = some x := by
  have h : L2.ixN (l ++ [x]).length (-1) = some l.length := by
    unfold L2.ixN
    have h1 : ¬ (0 : Int) ≤ -1 := by omega
    simp only [List.length_append, List.length_cons, List.length_nil]
    rw [if_neg (by omega), if_pos (by omega)]
    congr 1
    omega
  unfold L2.atI
  rw [h]
  simp
theorem src_last : ∀ {ls : List (List Nat)}, ls ≠ [] → ∃ b, src ls [] = b ++ [10]
  | [], h => absurd rfl h
  | [l], _ => ⟨l, rfl⟩
  | l :: m :: ls, _ => by
    obtain ⟨b, e⟩ := src_last (ls := m :: ls) (by simp)
    refine ⟨l ++ 10 :: b, ?_⟩
    show l ++ 10 :: src (m :: ls) [] = _
    rw [e]
    simp
theorem src_app : ∀ (ls : List (List Nat)) (t : List Nat), src ls t = src ls [] ++ t
  | [], t => rfl
  | l :: ls, t => by
    simp only [src]
    rw [src_app ls t]
    simp
def isC (s : List Nat) : Bool := s.isEmpty || (s.getLast? == some 10)
theorem c_is_closed (n : Nat) (s : List Nat) : G (n + 1) "is_closed" [.str s] = .ok (.val (.bl (isC s))) := by
  rw [G, Lv_eq (b := f_is_closed) (by kernel_rfl) rfl]
  have e1 : D.eqv (.str s) (.str []) = s.isEmpty := by cases s <;> rfl
  simp only [f_is_closed, b_is_closed, ev_cst, ev_var, ev_take, ev_fz, ev_glb, ev_tup, ev_lst, ev_bin, ev_neg, ev_not, ev_and, ev_or, ev_ite, ev_cmp, ev_cmp2, ev_idx, ev_slc, ev_call, ev_callv, ev_bi, ev_biP, ev_mt, ev_mtP, ev_isi, evs_nil, evs_cons, evo_non, evo_som, evi_of, evi_rg1, evi_rg2, evi_enum, evi_zip, xs_pass, xs_asg, xs_own, xs_asgT, xs_ite, xs_ret, xs_retN, xs_expr, xs_raise, xs_app, xs_tr, xss_nil, xss_cons, bi_len_s, bi_len_t, bi_len_l, bi_len_c, bi_abs_i, bi_int_i, bi_tup_t, bi_tup_l, bi_lst_t, bi_lst_l, bi_all_l, bi_any_l, op_add_i, op_sub_i, op_mul_i, op_div_i, op_mod_i, op_add_s, cm_lt_i, cm_le_i, cm_gt_i, cm_ge_i, ci_lt_i, ci_le_i, cm_eq, cm_ne, cm_in, cm_nin, cm_is, cm_isn, is_nn, is_bn, is_in, is_sn, is_tn, is_bb, tr_non, tr_bl, tr_int, tr_str, tr_tup, tr_lst, ty_s, ix_t, ix_l, ix_c, ix_s, it_t, it_l, it_s, it_c, put_nm, put_2, put_3, lim_0, lim_1, lim_2, lim_3, lim_4, lim_5, lim_9, if_true, rbind_ok, rbind_ex, out_ok, out_ex, then_nx, then_rt, then_ex, of_some, frz_val, frz_own, cr_nx, cr_rt, cr_ex, get_zero, get_succ, Env.put, Option.map_some, Option.map_none, Option.bind_some, startE, List.map_cons, List.map_nil, List.length_cons, List.length_nil, List.cons_append, List.nil_append, List.replicate_succ, List.replicate_zero, List.set_cons_zero, List.set_cons_succ, Nat.reduceAdd, Nat.reduceSub, Nat.zero_add, D.flat, e1, Bool.and_self, if_true]
  cases hs : s.isEmpty with
  | true =>
    simp only [ev_cst, ev_var, ev_take, ev_fz, ev_glb, ev_tup, ev_lst, ev_bin, ev_neg, ev_not, ev_and, ev_or, ev_ite, ev_cmp, ev_cmp2, ev_idx, ev_slc, ev_call, ev_callv, ev_bi, ev_biP, ev_mt, ev_mtP, ev_isi, evs_nil, evs_cons, evo_non, evo_som, evi_of, evi_rg1, evi_rg2, evi_enum, evi_zip, xs_pass, xs_asg, xs_own, xs_asgT, xs_ite, xs_ret, xs_retN, xs_expr, xs_raise, xs_app, xs_tr, xss_nil, xss_cons, bi_len_s, bi_len_t, bi_len_l, bi_len_c, bi_abs_i, bi_int_i, bi_tup_t, bi_tup_l, bi_lst_t, bi_lst_l, bi_all_l, bi_any_l, op_add_i, op_sub_i, op_mul_i, op_div_i, op_mod_i, op_add_s, cm_lt_i, cm_le_i, cm_gt_i, cm_ge_i, ci_lt_i, ci_le_i, cm_eq, cm_ne, cm_in, cm_nin, cm_is, cm_isn, is_nn, is_bn, is_in, is_sn, is_tn, is_bb, tr_non, tr_bl, tr_int, tr_str, tr_tup, tr_lst, ty_s, ix_t, ix_l, ix_c, ix_s, it_t, it_l, it_s, it_c, put_nm, put_2, put_3, lim_0, lim_1, lim_2, lim_3, lim_4, lim_5, lim_9, if_true, rbind_ok, rbind_ex, out_ok, out_ex, then_nx, then_rt, then_ex, of_some, frz_val, frz_own, cr_nx, cr_rt, cr_ex, get_zero, get_succ, Env.put, Option.map_some, Option.map_none, Option.bind_some, startE, List.map_cons, List.map_nil, List.length_cons, List.length_nil, List.cons_append, List.nil_append, List.replicate_succ, List.replicate_zero, List.set_cons_zero, List.set_cons_succ, Nat.reduceAdd, Nat.reduceSub, Nat.zero_add, isC, hs, Bool.true_or]
  | false =>
    have hne : s ≠ [] := by intro e; rw [e] at hs; cases hs
    obtain ⟨l, x, rfl⟩ : ∃ l x, s = l ++ [x] := ⟨s.dropLast, s.getLast hne, (List.dropLast_concat_getLast hne).symm⟩
    simp only [ev_cst, ev_var, ev_take, ev_fz, ev_glb, ev_tup, ev_lst, ev_bin, ev_neg, ev_not, ev_and, ev_or, ev_ite, ev_cmp, ev_cmp2, ev_idx, ev_slc, ev_call, ev_callv, ev_bi, ev_biP, ev_mt, ev_mtP, ev_isi, evs_nil, evs_cons, evo_non, evo_som, evi_of, evi_rg1, evi_rg2, evi_enum, evi_zip, xs_pass, xs_asg, xs_own, xs_asgT, xs_ite, xs_ret, xs_retN, xs_expr, xs_raise, xs_app, xs_tr, xss_nil, xss_cons, bi_len_s, bi_len_t, bi_len_l, bi_len_c, bi_abs_i, bi_int_i, bi_tup_t, bi_tup_l, bi_lst_t, bi_lst_l, bi_all_l, bi_any_l, op_add_i, op_sub_i, op_mul_i, op_div_i, op_mod_i, op_add_s, cm_lt_i, cm_le_i, cm_gt_i, cm_ge_i, ci_lt_i, ci_le_i, cm_eq, cm_ne, cm_in, cm_nin, cm_is, cm_isn, is_nn, is_bn, is_in, is_sn, is_tn, is_bb, tr_non, tr_bl, tr_int, tr_str, tr_tup, tr_lst, ty_s, ix_t, ix_l, ix_c, ix_s, it_t, it_l, it_s, it_c, put_nm, put_2, put_3, lim_0, lim_1, lim_2, lim_3, lim_4, lim_5, lim_9, if_true, rbind_ok, rbind_ex, out_ok, out_ex, then_nx, then_rt, then_ex, of_some, frz_val, frz_own, cr_nx, cr_rt, cr_ex, get_zero, get_succ, Env.put, Option.map_some, Option.map_none, Option.bind_some, startE, List.map_cons, List.map_nil, List.length_cons, List.length_nil, List.cons_append, List.nil_append, List.replicate_succ, List.replicate_zero, List.set_cons_zero, List.set_cons_succ, Nat.reduceAdd, Nat.reduceSub, Nat.zero_add, isC, hs, Int.reduceNeg, atI_last, D.flat, Bool.and_self, if_true, D.eqv, Bool.false_or, List.getLast?_append, List.getLast?_singleton, Option.some_or]
    by_cases hx : x = 10
    · subst hx; rfl
    · have : ([x] == [10]) = false := by simpa using hx
      have h2 : (some x == some 10) = false := by simpa using hx
      rw [this, h2]
theorem isC_src (ls : List (List Nat)) : isC (src ls []) = true := by
  unfold isC
  by_cases h : ls = []
  · subst h; rfl
  · obtain ⟨b, e⟩ := src_last h
    rw [e]
    simp
theorem isC_tail (ls : List (List Nat)) {t : List Nat} (ht : t ≠ []) (h10 : 10 ∉ t) : isC (src ls t) = false := by
  rw [src_app]
  unfold isC
  obtain ⟨l, x, rfl⟩ : ∃ l x, t = l ++ [x] := ⟨t.dropLast, t.getLast ht, (List.dropLast_concat_getLast ht).symm⟩
  have hx : x ≠ 10 := fun e => h10 (by simp [e])
  rw [← List.append_assoc]
  simp [hx]
/-! ### source_lines -/
def flt : Nat → List (List Nat) → Option Nat
  | _, [] => none
  | k, l :: ls => if (pl l).all okc then flt (k + 1) ls else some k
def told : Nat → List (List Nat) → List D
  | _, [] => []
  | k, l :: ls => (if wds (pl l) = [] then [] else [.tup [.int ((k : Int) + 1), .tup (wds (pl l))]]) ++ told (k + 1) ls
def enumF (k : Nat) (ls : List (List Nat)) : List D := ((ls.map D.str).zipIdx k).map fun p => .tup [.int (p.2 : Nat), p.1]
def bodySL : Ss := match b_source_lines with
  | .cons _ (.cons _ (.cons (.loop _ _ b) _)) => b
  | _ => .nil
theorem told_len : ∀ (k : Nat) (ls : List (List Nat)), (told k ls).length ≤ ls.length
  | _, [] => Nat.le_refl _
  | k, l :: ls => by
    have := told_len (k + 1) ls
    unfold told
    split <;> simp <;> omega
theorem lw_ok {l : List Nat} (h : (pl l).all okc = true) : lw l = .tup (wds (pl l)) := by unfold lw; rw [if_pos h]
theorem lw_no {l : List Nat} (h : (pl l).all okc = false) : lw l = .non := by unfold lw; rw [if_neg (by rw [h]; exact Bool.false_ne_true)]
theorem step_sl (n : Nat) (S L : Option Cell) {k : Nat} {l : List Nat} {acc : List D} {x5 : Option Cell} (h1 : 10 ∉ l) (h2 : l.length ≤ 1000) (ha : acc.length < 1000) :
    if (pl l).all okc = true then xss (G (n + 2)) md.T.xi md.sb bodySL [S, some (.own acc), L, some (.val (.int (k : Nat))), some (.val (.str l)), x5] = .nx [S, some (.own (acc ++ (if wds (pl l) = [] then [] else [.tup [.int ((k : Int) + 1), .tup (wds (pl l))]]))), L, some (.val (.int (k : Nat))), some (.val (.str l)), some (.val (.tup (wds (pl l))))]
    else ∃ ρ', xss (G (n + 2)) md.T.xi md.sb bodySL [S, some (.own acc), L, some (.val (.int (k : Nat))), some (.val (.str l)), x5] = .ex ⟨"BadLine", some ("line", .int ((k : Int) + 1))⟩ ρ' := by
  have hw : G (n + 2) "line_words" [.str l] = .ok (.val (lw l)) := c_line_words n l h1 h2
  have hlt : acc.length < LIM := by simp only [LIM]; omega
  cases hk : (pl l).all okc with
  | false =>
    simp only [Bool.false_eq_true, if_false]
    exact ⟨[S, some (.own acc), L, some (.val (.int (k : Nat))), some (.val (.str l)), some (.val .non)], by simp only [bodySL, b_source_lines, ev_cst, ev_var, ev_take, ev_fz, ev_glb, ev_tup, ev_lst, ev_bin, ev_neg, ev_not, ev_and, ev_or, ev_ite, ev_cmp, ev_cmp2, ev_idx, ev_slc, ev_call, ev_callv, ev_bi, ev_biP, ev_mt, ev_mtP, ev_isi, evs_nil, evs_cons, evo_non, evo_som, evi_of, evi_rg1, evi_rg2, evi_enum, evi_zip, xs_pass, xs_asg, xs_own, xs_asgT, xs_ite, xs_ret, xs_retN, xs_expr, xs_raise, xs_app, xs_tr, xss_nil, xss_cons, bi_len_s, bi_len_t, bi_len_l, bi_len_c, bi_abs_i, bi_int_i, bi_tup_t, bi_tup_l, bi_lst_t, bi_lst_l, bi_all_l, bi_any_l, op_add_i, op_sub_i, op_mul_i, op_div_i, op_mod_i, op_add_s, cm_lt_i, cm_le_i, cm_gt_i, cm_ge_i, ci_lt_i, ci_le_i, cm_eq, cm_ne, cm_in, cm_nin, cm_is, cm_isn, is_nn, is_bn, is_in, is_sn, is_tn, is_bb, tr_non, tr_bl, tr_int, tr_str, tr_tup, tr_lst, ty_s, ix_t, ix_l, ix_c, ix_s, it_t, it_l, it_s, it_c, put_nm, put_2, put_3, lim_0, lim_1, lim_2, lim_3, lim_4, lim_5, lim_9, if_true, rbind_ok, rbind_ex, out_ok, out_ex, then_nx, then_rt, then_ex, of_some, frz_val, frz_own, cr_nx, cr_rt, cr_ex, get_zero, get_succ, Env.put, Option.map_some, Option.map_none, Option.bind_some, startE, List.map_cons, List.map_nil, List.length_cons, List.length_nil, List.cons_append, List.nil_append, List.replicate_succ, List.replicate_zero, List.set_cons_zero, List.set_cons_succ, Nat.reduceAdd, Nat.reduceSub, Nat.zero_add, hw, lw_no hk, xi_bad]⟩
  | true =>
    simp only [if_true]
    by_cases hd : wds (pl l) = []
    · simp only [bodySL, b_source_lines, ev_cst, ev_var, ev_take, ev_fz, ev_glb, ev_tup, ev_lst, ev_bin, ev_neg, ev_not, ev_and, ev_or, ev_ite, ev_cmp, ev_cmp2, ev_idx, ev_slc, ev_call, ev_callv, ev_bi, ev_biP, ev_mt, ev_mtP, ev_isi, evs_nil, evs_cons, evo_non, evo_som, evi_of, evi_rg1, evi_rg2, evi_enum, evi_zip, xs_pass, xs_asg, xs_own, xs_asgT, xs_ite, xs_ret, xs_retN, xs_expr, xs_raise, xs_app, xs_tr, xss_nil, xss_cons, bi_len_s, bi_len_t, bi_len_l, bi_len_c, bi_abs_i, bi_int_i, bi_tup_t, bi_tup_l, bi_lst_t, bi_lst_l, bi_all_l, bi_any_l, op_add_i, op_sub_i, op_mul_i, op_div_i, op_mod_i, op_add_s, cm_lt_i, cm_le_i, cm_gt_i, cm_ge_i, ci_lt_i, ci_le_i, cm_eq, cm_ne, cm_in, cm_nin, cm_is, cm_isn, is_nn, is_bn, is_in, is_sn, is_tn, is_bb, tr_non, tr_bl, tr_int, tr_str, tr_tup, tr_lst, ty_s, ix_t, ix_l, ix_c, ix_s, it_t, it_l, it_s, it_c, put_nm, put_2, put_3, lim_0, lim_1, lim_2, lim_3, lim_4, lim_5, lim_9, if_true, rbind_ok, rbind_ex, out_ok, out_ex, then_nx, then_rt, then_ex, of_some, frz_val, frz_own, cr_nx, cr_rt, cr_ex, get_zero, get_succ, Env.put, Option.map_some, Option.map_none, Option.bind_some, startE, List.map_cons, List.map_nil, List.length_cons, List.length_nil, List.cons_append, List.nil_append, List.replicate_succ, List.replicate_zero, List.set_cons_zero, List.set_cons_succ, Nat.reduceAdd, Nat.reduceSub, Nat.zero_add, hw, lw_ok hk, hd, List.append_nil]
      rfl
    · have hp : (0 : Int) < ((wds (pl l)).length : Nat) := by
        have := List.length_pos_iff.mpr hd
        omega
      simp only [bodySL, b_source_lines, ev_cst, ev_var, ev_take, ev_fz, ev_glb, ev_tup, ev_lst, ev_bin, ev_neg, ev_not, ev_and, ev_or, ev_ite, ev_cmp, ev_cmp2, ev_idx, ev_slc, ev_call, ev_callv, ev_bi, ev_biP, ev_mt, ev_mtP, ev_isi, evs_nil, evs_cons, evo_non, evo_som, evi_of, evi_rg1, evi_rg2, evi_enum, evi_zip, xs_pass, xs_asg, xs_own, xs_asgT, xs_ite, xs_ret, xs_retN, xs_expr, xs_raise, xs_app, xs_tr, xss_nil, xss_cons, bi_len_s, bi_len_t, bi_len_l, bi_len_c, bi_abs_i, bi_int_i, bi_tup_t, bi_tup_l, bi_lst_t, bi_lst_l, bi_all_l, bi_any_l, op_add_i, op_sub_i, op_mul_i, op_div_i, op_mod_i, op_add_s, cm_lt_i, cm_le_i, cm_gt_i, cm_ge_i, ci_lt_i, ci_le_i, cm_eq, cm_ne, cm_in, cm_nin, cm_is, cm_isn, is_nn, is_bn, is_in, is_sn, is_tn, is_bb, tr_non, tr_bl, tr_int, tr_str, tr_tup, tr_lst, ty_s, ix_t, ix_l, ix_c, ix_s, it_t, it_l, it_s, it_c, put_nm, put_2, put_3, lim_0, lim_1, lim_2, lim_3, lim_4, lim_5, lim_9, if_true, rbind_ok, rbind_ex, out_ok, out_ex, then_nx, then_rt, then_ex, of_some, frz_val, frz_own, cr_nx, cr_rt, cr_ex, get_zero, get_succ, Env.put, Option.map_some, Option.map_none, Option.bind_some, startE, List.map_cons, List.map_nil, List.length_cons, List.length_nil, List.cons_append, List.nil_append, List.replicate_succ, List.replicate_zero, List.set_cons_zero, List.set_cons_succ, Nat.reduceAdd, Nat.reduceSub, Nat.zero_add, hw, lw_ok hk, hp, decide_true, hlt, if_neg hd]
theorem loop_sl (n : Nat) (S L : Option Cell) : ∀ {ls : List (List Nat)} {k : Nat} {acc : List D} {x3 x4 x5 : Option Cell}, okL ls → acc.length + ls.length ≤ 1000 →
    match flt k ls with
      | none => ∃ y3 y4 y5, forL (.tp [3, 4]) (fun ρ => xss (G (n + 2)) md.T.xi md.sb bodySL ρ) (enumF k ls) [S, some (.own acc), L, x3, x4, x5] = .nx [S, some (.own (acc ++ told k ls)), L, y3, y4, y5]
      | some j => ∃ ρ', forL (.tp [3, 4]) (fun ρ => xss (G (n + 2)) md.T.xi md.sb bodySL ρ) (enumF k ls) [S, some (.own acc), L, x3, x4, x5] = .ex ⟨"BadLine", some ("line", .int ((j : Int) + 1))⟩ ρ'
  | [], k, acc, x3, x4, x5, _, _ => ⟨x3, x4, x5, by simp [told, enumF, forL]⟩
  | l :: ls, k, acc, x3, x4, x5, h, ha => by
    have e : enumF k (l :: ls) = .tup [.int (k : Nat), .str l] :: enumF (k + 1) ls := by simp [enumF, List.zipIdx_cons]
    have st := step_sl n S L (k := k) (l := l) (acc := acc) (x5 := x5) (h.2 l (by simp)).1 (h.2 l (by simp)).2 (by simp at ha; omega)
    rw [e]
    unfold forL
    have ep : Tg.put (.tp [3, 4]) (.tup [.int (k : Nat), .str l]) [S, some (.own acc), L, x3, x4, x5] = some [S, some (.own acc), L, some (.val (.int (k : Nat))), some (.val (.str l)), x5] := rfl
    simp only [ep]
    unfold flt
    cases hk : (pl l).all okc with
    | false =>
      rw [hk] at st
      simp only [Bool.false_eq_true, if_false] at st ⊢
      obtain ⟨ρ', st⟩ := st
      exact ⟨ρ', by rw [st]; rfl⟩
    | true =>
      rw [hk] at st
      simp only [if_true] at st ⊢
      rw [st]
      have ih := loop_sl n S L (ls := ls) (k := k + 1) (acc := acc ++ (if wds (pl l) = [] then [] else [.tup [.int ((k : Int) + 1), .tup (wds (pl l))]])) (x3 := some (.val (.int (k : Nat)))) (x4 := some (.val (.str l))) (x5 := some (.val (.tup (wds (pl l))))) h.tail (by
        split <;> simp at ha ⊢ <;> omega)
      have e2 : told k (l :: ls) = (if wds (pl l) = [] then [] else [.tup [.int ((k : Int) + 1), .tup (wds (pl l))]]) ++ told (k + 1) ls := rfl
      rw [e2, ← List.append_assoc]
      exact ih
theorem enumF_eq (ls : List (List Nat)) : enumL (ls.map .str) = enumF 0 ls := rfl
/-- source_lines -/
theorem c_source_lines (n : Nat) {ls : List (List Nat)} {t : List Nat} (h : okL ls) (ht : t.length ≤ 1000) (h10 : 10 ∉ t) : G (n + 3) "source_lines" [.str (src ls t)] = match flt 0 ls with
    | some j => .ex ⟨"BadLine", some ("line", .int ((j : Int) + 1))⟩
    | none => if t = [] then .ok (.val (.tup (told 0 ls))) else .ex ⟨"BadLine", some ("line", .int ((ls.length : Int) + 1))⟩ := by
  rw [G, Lv_eq (b := f_source_lines) (by kernel_rfl) rfl]
  have hc : Lv md.T md.sb md.F (n + 2) "closed_lines" [.str (src ls t)] = .ok (.own (ls.map .str)) := c_closed_lines (n + 1) h ht h10
  have lp := loop_sl n (some (.val (.str (src ls t)))) (some (.val (.lst (ls.map .str)))) (ls := ls) (k := 0) (acc := []) (x3 := none) (x4 := none) (x5 := none) h (by have := h.1; simp; omega)
  have hx : xss (Lv md.T md.sb md.F (n + 2)) md.T.xi md.sb b_source_lines [some (.val (.str (src ls t))), none, none, none, none, none] =
      (forL (.tp [3, 4]) (fun ρ => xss (G (n + 2)) md.T.xi md.sb bodySL ρ) (enumF 0 ls) [some (.val (.str (src ls t))), some (.own []), some (.val (.lst (ls.map .str))), none, none, none]).andThen fun ρ => xss (Lv md.T md.sb md.F (n + 2)) md.T.xi md.sb (match b_source_lines with
        | .cons _ (.cons _ (.cons _ r)) => r
        | _ => .nil) ρ := by
    simp only [b_source_lines, bodySL, xss_cons, xs_own, xs_asg, ev_lst, ev_call, evs_nil, evs_cons, ev_var, ev_cst, ev_var, ev_take, ev_fz, ev_glb, ev_tup, ev_lst, ev_bin, ev_neg, ev_not, ev_and, ev_or, ev_ite, ev_cmp, ev_cmp2, ev_idx, ev_slc, ev_call, ev_callv, ev_bi, ev_biP, ev_mt, ev_mtP, ev_isi, evs_nil, evs_cons, evo_non, evo_som, evi_of, evi_rg1, evi_rg2, evi_enum, evi_zip, xs_pass, xs_asg, xs_own, xs_asgT, xs_ite, xs_ret, xs_retN, xs_expr, xs_raise, xs_app, xs_tr, xss_nil, xss_cons, bi_len_s, bi_len_t, bi_len_l, bi_len_c, bi_abs_i, bi_int_i, bi_tup_t, bi_tup_l, bi_lst_t, bi_lst_l, bi_all_l, bi_any_l, op_add_i, op_sub_i, op_mul_i, op_div_i, op_mod_i, op_add_s, cm_lt_i, cm_le_i, cm_gt_i, cm_ge_i, ci_lt_i, ci_le_i, cm_eq, cm_ne, cm_in, cm_nin, cm_is, cm_isn, is_nn, is_bn, is_in, is_sn, is_tn, is_bb, tr_non, tr_bl, tr_int, tr_str, tr_tup, tr_lst, ty_s, ix_t, ix_l, ix_c, ix_s, it_t, it_l, it_s, it_c, put_nm, put_2, put_3, lim_0, lim_1, lim_2, lim_3, lim_4, lim_5, lim_9, if_true, rbind_ok, rbind_ex, out_ok, out_ex, then_nx, then_rt, then_ex, of_some, frz_val, frz_own, cr_nx, cr_rt, cr_ex, get_zero, get_succ, Env.put, Option.map_some, Option.map_none, Option.bind_some, startE, List.map_cons, List.map_nil, List.length_cons, List.length_nil, List.cons_append, List.nil_append, List.replicate_succ, List.replicate_zero, List.set_cons_zero, List.set_cons_succ, Nat.reduceAdd, Nat.reduceSub, Nat.zero_add, hc]
    rfl
  show (xss (Lv md.T md.sb md.F (n + 2)) md.T.xi md.sb b_source_lines [some (.val (.str (src ls t))), none, none, none, none, none]).cr = _
  rw [hx]
  cases hf : flt 0 ls with
  | some j =>
    rw [hf] at lp
    obtain ⟨ρ', lp⟩ := lp
    rw [lp]
    rfl
  | none =>
    rw [hf] at lp
    obtain ⟨y3, y4, y5, lp⟩ := lp
    rw [lp, then_nx]
    have hi : Lv md.T md.sb md.F (n + 2) "is_closed" [.str (src ls t)] = .ok (.val (.bl (isC (src ls t)))) := c_is_closed (n + 1) _
    simp only [b_source_lines, List.nil_append, ev_cst, ev_var, ev_take, ev_fz, ev_glb, ev_tup, ev_lst, ev_bin, ev_neg, ev_not, ev_and, ev_or, ev_ite, ev_cmp, ev_cmp2, ev_idx, ev_slc, ev_call, ev_callv, ev_bi, ev_biP, ev_mt, ev_mtP, ev_isi, evs_nil, evs_cons, evo_non, evo_som, evi_of, evi_rg1, evi_rg2, evi_enum, evi_zip, xs_pass, xs_asg, xs_own, xs_asgT, xs_ite, xs_ret, xs_retN, xs_expr, xs_raise, xs_app, xs_tr, xss_nil, xss_cons, bi_len_s, bi_len_t, bi_len_l, bi_len_c, bi_abs_i, bi_int_i, bi_tup_t, bi_tup_l, bi_lst_t, bi_lst_l, bi_all_l, bi_any_l, op_add_i, op_sub_i, op_mul_i, op_div_i, op_mod_i, op_add_s, cm_lt_i, cm_le_i, cm_gt_i, cm_ge_i, ci_lt_i, ci_le_i, cm_eq, cm_ne, cm_in, cm_nin, cm_is, cm_isn, is_nn, is_bn, is_in, is_sn, is_tn, is_bb, tr_non, tr_bl, tr_int, tr_str, tr_tup, tr_lst, ty_s, ix_t, ix_l, ix_c, ix_s, it_t, it_l, it_s, it_c, put_nm, put_2, put_3, lim_0, lim_1, lim_2, lim_3, lim_4, lim_5, lim_9, if_true, rbind_ok, rbind_ex, out_ok, out_ex, then_nx, then_rt, then_ex, of_some, frz_val, frz_own, cr_nx, cr_rt, cr_ex, get_zero, get_succ, Env.put, Option.map_some, Option.map_none, Option.bind_some, startE, List.map_cons, List.map_nil, List.length_cons, List.length_nil, List.cons_append, List.nil_append, List.replicate_succ, List.replicate_zero, List.set_cons_zero, List.set_cons_succ, Nat.reduceAdd, Nat.reduceSub, Nat.zero_add, hi]
    by_cases e : t = []
    · subst e
      simp only [isC_src, ev_cst, ev_var, ev_take, ev_fz, ev_glb, ev_tup, ev_lst, ev_bin, ev_neg, ev_not, ev_and, ev_or, ev_ite, ev_cmp, ev_cmp2, ev_idx, ev_slc, ev_call, ev_callv, ev_bi, ev_biP, ev_mt, ev_mtP, ev_isi, evs_nil, evs_cons, evo_non, evo_som, evi_of, evi_rg1, evi_rg2, evi_enum, evi_zip, xs_pass, xs_asg, xs_own, xs_asgT, xs_ite, xs_ret, xs_retN, xs_expr, xs_raise, xs_app, xs_tr, xss_nil, xss_cons, bi_len_s, bi_len_t, bi_len_l, bi_len_c, bi_abs_i, bi_int_i, bi_tup_t, bi_tup_l, bi_lst_t, bi_lst_l, bi_all_l, bi_any_l, op_add_i, op_sub_i, op_mul_i, op_div_i, op_mod_i, op_add_s, cm_lt_i, cm_le_i, cm_gt_i, cm_ge_i, ci_lt_i, ci_le_i, cm_eq, cm_ne, cm_in, cm_nin, cm_is, cm_isn, is_nn, is_bn, is_in, is_sn, is_tn, is_bb, tr_non, tr_bl, tr_int, tr_str, tr_tup, tr_lst, ty_s, ix_t, ix_l, ix_c, ix_s, it_t, it_l, it_s, it_c, put_nm, put_2, put_3, lim_0, lim_1, lim_2, lim_3, lim_4, lim_5, lim_9, if_true, rbind_ok, rbind_ex, out_ok, out_ex, then_nx, then_rt, then_ex, of_some, frz_val, frz_own, cr_nx, cr_rt, cr_ex, get_zero, get_succ, Env.put, Option.map_some, Option.map_none, Option.bind_some, startE, List.map_cons, List.map_nil, List.length_cons, List.length_nil, List.cons_append, List.nil_append, List.replicate_succ, List.replicate_zero, List.set_cons_zero, List.set_cons_succ, Nat.reduceAdd, Nat.reduceSub, Nat.zero_add, Bool.not_true]
    · simp only [isC_tail ls e h10, ev_cst, ev_var, ev_take, ev_fz, ev_glb, ev_tup, ev_lst, ev_bin, ev_neg, ev_not, ev_and, ev_or, ev_ite, ev_cmp, ev_cmp2, ev_idx, ev_slc, ev_call, ev_callv, ev_bi, ev_biP, ev_mt, ev_mtP, ev_isi, evs_nil, evs_cons, evo_non, evo_som, evi_of, evi_rg1, evi_rg2, evi_enum, evi_zip, xs_pass, xs_asg, xs_own, xs_asgT, xs_ite, xs_ret, xs_retN, xs_expr, xs_raise, xs_app, xs_tr, xss_nil, xss_cons, bi_len_s, bi_len_t, bi_len_l, bi_len_c, bi_abs_i, bi_int_i, bi_tup_t, bi_tup_l, bi_lst_t, bi_lst_l, bi_all_l, bi_any_l, op_add_i, op_sub_i, op_mul_i, op_div_i, op_mod_i, op_add_s, cm_lt_i, cm_le_i, cm_gt_i, cm_ge_i, ci_lt_i, ci_le_i, cm_eq, cm_ne, cm_in, cm_nin, cm_is, cm_isn, is_nn, is_bn, is_in, is_sn, is_tn, is_bb, tr_non, tr_bl, tr_int, tr_str, tr_tup, tr_lst, ty_s, ix_t, ix_l, ix_c, ix_s, it_t, it_l, it_s, it_c, put_nm, put_2, put_3, lim_0, lim_1, lim_2, lim_3, lim_4, lim_5, lim_9, if_true, rbind_ok, rbind_ex, out_ok, out_ex, then_nx, then_rt, then_ex, of_some, frz_val, frz_own, cr_nx, cr_rt, cr_ex, get_zero, get_succ, Env.put, Option.map_some, Option.map_none, Option.bind_some, startE, List.map_cons, List.map_nil, List.length_cons, List.length_nil, List.cons_append, List.nil_append, List.replicate_succ, List.replicate_zero, List.set_cons_zero, List.set_cons_succ, Nat.reduceAdd, Nat.reduceSub, Nat.zero_add, Bool.not_false, xi_bad, if_neg e, List.length_map]
end K79

set_option Elab.async false
set_option linter.all false
set_option maxRecDepth 100000
namespace K79
open Bw PySem PySem.Spec PyProof.Rows L2
/-! ### remarks_of -/
def noted : Nat → List (List Nat) → List D
  | _, [] => []
  | k, l :: ls => (if 35 ∈ l then [.tup [.int ((k : Int) + 1), lr l]] else []) ++ noted (k + 1) ls
def bodyRO : Ss := match b_remarks_of with
  | .cons _ (.cons _ (.cons (.loop _ _ b) _)) => b
  | _ => .nil
theorem lr_some {l : List Nat} (h : 35 ∈ l) : lr l = .str (l.drop (idx 35 l + 1)) := by unfold lr; rw [if_pos h]
theorem lr_none {l : List Nat} (h : 35 ∉ l) : lr l = .non := by unfold lr; rw [if_neg h]
theorem step_ro (n : Nat) (S : Option Cell) {k : Nat} {l : List Nat} {acc : List D} {x4 : Option Cell} (h1 : 10 ∉ l) (ha : acc.length < 1000) :
    xss (G (n + 1)) md.T.xi md.sb bodyRO [S, some (.own acc), some (.val (.int (k : Nat))), some (.val (.str l)), x4] = .nx [S, some (.own (acc ++ (if 35 ∈ l then [.tup [.int ((k : Int) + 1), lr l]] else []))), some (.val (.int (k : Nat))), some (.val (.str l)), some (.val (lr l))] := by
  have hw : G (n + 1) "line_remark" [.str l] = .ok (.val (lr l)) := c_line_remark n l h1
  have hlt : acc.length < LIM := by simp only [LIM]; omega
  by_cases hk : 35 ∈ l
  · rw [if_pos hk]
    simp only [bodyRO, b_remarks_of, ev_cst, ev_var, ev_take, ev_fz, ev_glb, ev_tup, ev_lst, ev_bin, ev_neg, ev_not, ev_and, ev_or, ev_ite, ev_cmp, ev_cmp2, ev_idx, ev_slc, ev_call, ev_callv, ev_bi, ev_biP, ev_mt, ev_mtP, ev_isi, evs_nil, evs_cons, evo_non, evo_som, evi_of, evi_rg1, evi_rg2, evi_enum, evi_zip, xs_pass, xs_asg, xs_own, xs_asgT, xs_ite, xs_ret, xs_retN, xs_expr, xs_raise, xs_app, xs_tr, xss_nil, xss_cons, bi_len_s, bi_len_t, bi_len_l, bi_len_c, bi_abs_i, bi_int_i, bi_tup_t, bi_tup_l, bi_lst_t, bi_lst_l, bi_all_l, bi_any_l, op_add_i, op_sub_i, op_mul_i, op_div_i, op_mod_i, op_add_s, cm_lt_i, cm_le_i, cm_gt_i, cm_ge_i, ci_lt_i, ci_le_i, cm_eq, cm_ne, cm_in, cm_nin, cm_is, cm_isn, is_nn, is_bn, is_in, is_sn, is_tn, is_bb, tr_non, tr_bl, tr_int, tr_str, tr_tup, tr_lst, ty_s, ix_t, ix_l, ix_c, ix_s, it_t, it_l, it_s, it_c, put_nm, put_2, put_3, lim_0, lim_1, lim_2, lim_3, lim_4, lim_5, lim_9, if_true, rbind_ok, rbind_ex, out_ok, out_ex, then_nx, then_rt, then_ex, of_some, frz_val, frz_own, cr_nx, cr_rt, cr_ex, get_zero, get_succ, Env.put, Option.map_some, Option.map_none, Option.bind_some, startE, List.map_cons, List.map_nil, List.length_cons, List.length_nil, List.cons_append, List.nil_append, List.replicate_succ, List.replicate_zero, List.set_cons_zero, List.set_cons_succ, Nat.reduceAdd, Nat.reduceSub, Nat.zero_add, hw, lr_some hk, Bool.not_false, hlt]
  · rw [if_neg hk]
    simp only [bodyRO, b_remarks_of, ev_cst, ev_var, ev_take, ev_fz, ev_glb, ev_tup, ev_lst, ev_bin, ev_neg, ev_not, ev_and, ev_or, ev_ite, ev_cmp, ev_cmp2, ev_idx, ev_slc, ev_call, ev_callv, ev_bi, ev_biP, ev_mt, ev_mtP, ev_isi, evs_nil, evs_cons, evo_non, evo_som, evi_of, evi_rg1, evi_rg2, evi_enum, evi_zip, xs_pass, xs_asg, xs_own, xs_asgT, xs_ite, xs_ret, xs_retN, xs_expr, xs_raise, xs_app, xs_tr, xss_nil, xss_cons, bi_len_s, bi_len_t, bi_len_l, bi_len_c, bi_abs_i, bi_int_i, bi_tup_t, bi_tup_l, bi_lst_t, bi_lst_l, bi_all_l, bi_any_l, op_add_i, op_sub_i, op_mul_i, op_div_i, op_mod_i, op_add_s, cm_lt_i, cm_le_i, cm_gt_i, cm_ge_i, ci_lt_i, ci_le_i, cm_eq, cm_ne, cm_in, cm_nin, cm_is, cm_isn, is_nn, is_bn, is_in, is_sn, is_tn, is_bb, tr_non, tr_bl, tr_int, tr_str, tr_tup, tr_lst, ty_s, ix_t, ix_l, ix_c, ix_s, it_t, it_l, it_s, it_c, put_nm, put_2, put_3, lim_0, lim_1, lim_2, lim_3, lim_4, lim_5, lim_9, if_true, rbind_ok, rbind_ex, out_ok, out_ex, then_nx, then_rt, then_ex, of_some, frz_val, frz_own, cr_nx, cr_rt, cr_ex, get_zero, get_succ, Env.put, Option.map_some, Option.map_none, Option.bind_some, startE, List.map_cons, List.map_nil, List.length_cons, List.length_nil, List.cons_append, List.nil_append, List.replicate_succ, List.replicate_zero, List.set_cons_zero, List.set_cons_succ, Nat.reduceAdd, Nat.reduceSub, Nat.zero_add, hw, lr_none hk, Bool.not_true, List.append_nil]
theorem loop_ro (n : Nat) (S : Option Cell) : ∀ {ls : List (List Nat)} {k : Nat} {acc : List D} {x2 x3 x4 : Option Cell}, okL ls → acc.length + ls.length ≤ 1000 →
    ∃ y2 y3 y4, forL (.tp [2, 3]) (fun ρ => xss (G (n + 1)) md.T.xi md.sb bodyRO ρ) (enumF k ls) [S, some (.own acc), x2, x3, x4] = .nx [S, some (.own (acc ++ noted k ls)), y2, y3, y4]
  | [], k, acc, x2, x3, x4, _, _ => ⟨x2, x3, x4, by simp [noted, enumF, forL]⟩
  | l :: ls, k, acc, x2, x3, x4, h, ha => by
    have e : enumF k (l :: ls) = .tup [.int (k : Nat), .str l] :: enumF (k + 1) ls := by simp [enumF, List.zipIdx_cons]
    have st := step_ro n S (k := k) (l := l) (acc := acc) (x4 := x4) (h.2 l (by simp)).1 (by simp at ha; omega)
    rw [e]
    unfold forL
    have ep : Tg.put (.tp [2, 3]) (.tup [.int (k : Nat), .str l]) [S, some (.own acc), x2, x3, x4] = some [S, some (.own acc), some (.val (.int (k : Nat))), some (.val (.str l)), x4] := rfl
    simp only [ep]
    rw [st]
    have ih := loop_ro n S (ls := ls) (k := k + 1) (acc := acc ++ (if 35 ∈ l then [.tup [.int ((k : Int) + 1), lr l]] else [])) (x2 := some (.val (.int (k : Nat)))) (x3 := some (.val (.str l))) (x4 := some (.val (lr l))) h.tail (by
      split <;> simp at ha ⊢ <;> omega)
    have e2 : noted k (l :: ls) = (if 35 ∈ l then [.tup [.int ((k : Int) + 1), lr l]] else []) ++ noted (k + 1) ls := rfl
    rw [e2, ← List.append_assoc]
    exact ih
/-- what source_lines says, as an outcome for those that lean on it -/
def slR (ls : List (List Nat)) (t : List Nat) : Option Exn := match flt 0 ls with
  | some j => some ⟨"BadLine", some ("line", .int ((j : Int) + 1))⟩
  | none => if t = [] then none else some ⟨"BadLine", some ("line", .int ((ls.length : Int) + 1))⟩
theorem c_sl (n : Nat) {ls : List (List Nat)} {t : List Nat} (h : okL ls) (ht : t.length ≤ 1000) (h10 : 10 ∉ t) : G (n + 3) "source_lines" [.str (src ls t)] = match slR ls t with
    | some x => .ex x
    | none => .ok (.val (.tup (told 0 ls))) := by
  rw [c_source_lines n h ht h10]
  unfold slR
  cases flt 0 ls with
  | some j => rfl
  | none =>
    by_cases e : t = []
    · simp only [if_pos e]
    · simp only [if_neg e]
theorem c_remarks_of (n : Nat) {ls : List (List Nat)} {t : List Nat} (h : okL ls) (ht : t.length ≤ 1000) (h10 : 10 ∉ t) : G (n + 4) "remarks_of" [.str (src ls t)] = match slR ls t with
    | some x => .ex x
    | none => .ok (.val (.tup (noted 0 ls))) := by
  rw [G, Lv_eq (b := f_remarks_of) (by kernel_rfl) rfl]
  have hs : Lv md.T md.sb md.F (n + 3) "source_lines" [.str (src ls t)] = _ := c_sl n h ht h10
  cases hr : slR ls t with
  | some x =>
    rw [hr] at hs
    simp only [f_remarks_of, b_remarks_of, ev_cst, ev_var, ev_take, ev_fz, ev_glb, ev_tup, ev_lst, ev_bin, ev_neg, ev_not, ev_and, ev_or, ev_ite, ev_cmp, ev_cmp2, ev_idx, ev_slc, ev_call, ev_callv, ev_bi, ev_biP, ev_mt, ev_mtP, ev_isi, evs_nil, evs_cons, evo_non, evo_som, evi_of, evi_rg1, evi_rg2, evi_enum, evi_zip, xs_pass, xs_asg, xs_own, xs_asgT, xs_ite, xs_ret, xs_retN, xs_expr, xs_raise, xs_app, xs_tr, xss_nil, xss_cons, bi_len_s, bi_len_t, bi_len_l, bi_len_c, bi_abs_i, bi_int_i, bi_tup_t, bi_tup_l, bi_lst_t, bi_lst_l, bi_all_l, bi_any_l, op_add_i, op_sub_i, op_mul_i, op_div_i, op_mod_i, op_add_s, cm_lt_i, cm_le_i, cm_gt_i, cm_ge_i, ci_lt_i, ci_le_i, cm_eq, cm_ne, cm_in, cm_nin, cm_is, cm_isn, is_nn, is_bn, is_in, is_sn, is_tn, is_bb, tr_non, tr_bl, tr_int, tr_str, tr_tup, tr_lst, ty_s, ix_t, ix_l, ix_c, ix_s, it_t, it_l, it_s, it_c, put_nm, put_2, put_3, lim_0, lim_1, lim_2, lim_3, lim_4, lim_5, lim_9, if_true, rbind_ok, rbind_ex, out_ok, out_ex, then_nx, then_rt, then_ex, of_some, frz_val, frz_own, cr_nx, cr_rt, cr_ex, get_zero, get_succ, Env.put, Option.map_some, Option.map_none, Option.bind_some, startE, List.map_cons, List.map_nil, List.length_cons, List.length_nil, List.cons_append, List.nil_append, List.replicate_succ, List.replicate_zero, List.set_cons_zero, List.set_cons_succ, Nat.reduceAdd, Nat.reduceSub, Nat.zero_add, hs]
  | none =>
    rw [hr] at hs
    have hc : Lv md.T md.sb md.F (n + 3) "closed_lines" [.str (src ls t)] = .ok (.own (ls.map .str)) := c_closed_lines (n + 2) h ht h10
    obtain ⟨y2, y3, y4, lp⟩ := loop_ro (n + 2) (some (.val (.str (src ls t)))) (ls := ls) (k := 0) (acc := []) (x2 := none) (x3 := none) (x4 := none) h (by have := h.1; simp; omega)
    have hx : xss (Lv md.T md.sb md.F (n + 3)) md.T.xi md.sb b_remarks_of [some (.val (.str (src ls t))), none, none, none, none] =
        (forL (.tp [2, 3]) (fun ρ => xss (G (n + 3)) md.T.xi md.sb bodyRO ρ) (enumF 0 ls) [some (.val (.str (src ls t))), some (.own []), none, none, none]).andThen fun ρ => xss (Lv md.T md.sb md.F (n + 3)) md.T.xi md.sb (match b_remarks_of with
          | .cons _ (.cons _ (.cons _ r)) => r
          | _ => .nil) ρ := by
      simp only [b_remarks_of, bodyRO, ev_cst, ev_var, ev_take, ev_fz, ev_glb, ev_tup, ev_lst, ev_bin, ev_neg, ev_not, ev_and, ev_or, ev_ite, ev_cmp, ev_cmp2, ev_idx, ev_slc, ev_call, ev_callv, ev_bi, ev_biP, ev_mt, ev_mtP, ev_isi, evs_nil, evs_cons, evo_non, evo_som, evi_of, evi_rg1, evi_rg2, evi_enum, evi_zip, xs_pass, xs_asg, xs_own, xs_asgT, xs_ite, xs_ret, xs_retN, xs_expr, xs_raise, xs_app, xs_tr, xss_nil, xss_cons, bi_len_s, bi_len_t, bi_len_l, bi_len_c, bi_abs_i, bi_int_i, bi_tup_t, bi_tup_l, bi_lst_t, bi_lst_l, bi_all_l, bi_any_l, op_add_i, op_sub_i, op_mul_i, op_div_i, op_mod_i, op_add_s, cm_lt_i, cm_le_i, cm_gt_i, cm_ge_i, ci_lt_i, ci_le_i, cm_eq, cm_ne, cm_in, cm_nin, cm_is, cm_isn, is_nn, is_bn, is_in, is_sn, is_tn, is_bb, tr_non, tr_bl, tr_int, tr_str, tr_tup, tr_lst, ty_s, ix_t, ix_l, ix_c, ix_s, it_t, it_l, it_s, it_c, put_nm, put_2, put_3, lim_0, lim_1, lim_2, lim_3, lim_4, lim_5, lim_9, if_true, rbind_ok, rbind_ex, out_ok, out_ex, then_nx, then_rt, then_ex, of_some, frz_val, frz_own, cr_nx, cr_rt, cr_ex, get_zero, get_succ, Env.put, Option.map_some, Option.map_none, Option.bind_some, startE, List.map_cons, List.map_nil, List.length_cons, List.length_nil, List.cons_append, List.nil_append, List.replicate_succ, List.replicate_zero, List.set_cons_zero, List.set_cons_succ, Nat.reduceAdd, Nat.reduceSub, Nat.zero_add, hs, hc, xs]
      rfl
    show (xss (Lv md.T md.sb md.F (n + 3)) md.T.xi md.sb b_remarks_of [some (.val (.str (src ls t))), none, none, none, none]).cr = _
    rw [hx, lp, then_nx]
    simp only [b_remarks_of, List.nil_append, ev_cst, ev_var, ev_take, ev_fz, ev_glb, ev_tup, ev_lst, ev_bin, ev_neg, ev_not, ev_and, ev_or, ev_ite, ev_cmp, ev_cmp2, ev_idx, ev_slc, ev_call, ev_callv, ev_bi, ev_biP, ev_mt, ev_mtP, ev_isi, evs_nil, evs_cons, evo_non, evo_som, evi_of, evi_rg1, evi_rg2, evi_enum, evi_zip, xs_pass, xs_asg, xs_own, xs_asgT, xs_ite, xs_ret, xs_retN, xs_expr, xs_raise, xs_app, xs_tr, xss_nil, xss_cons, bi_len_s, bi_len_t, bi_len_l, bi_len_c, bi_abs_i, bi_int_i, bi_tup_t, bi_tup_l, bi_lst_t, bi_lst_l, bi_all_l, bi_any_l, op_add_i, op_sub_i, op_mul_i, op_div_i, op_mod_i, op_add_s, cm_lt_i, cm_le_i, cm_gt_i, cm_ge_i, ci_lt_i, ci_le_i, cm_eq, cm_ne, cm_in, cm_nin, cm_is, cm_isn, is_nn, is_bn, is_in, is_sn, is_tn, is_bb, tr_non, tr_bl, tr_int, tr_str, tr_tup, tr_lst, ty_s, ix_t, ix_l, ix_c, ix_s, it_t, it_l, it_s, it_c, put_nm, put_2, put_3, lim_0, lim_1, lim_2, lim_3, lim_4, lim_5, lim_9, if_true, rbind_ok, rbind_ex, out_ok, out_ex, then_nx, then_rt, then_ex, of_some, frz_val, frz_own, cr_nx, cr_rt, cr_ex, get_zero, get_succ, Env.put, Option.map_some, Option.map_none, Option.bind_some, startE, List.map_cons, List.map_nil, List.length_cons, List.length_nil, List.cons_append, List.nil_append, List.replicate_succ, List.replicate_zero, List.set_cons_zero, List.set_cons_succ, Nat.reduceAdd, Nat.reduceSub, Nat.zero_add]
/-! ### without_remarks -/
def cutR (l : List Nat) : List Nat := if 35 ∈ l then TL.tl (Txt.rstrip (sOf (pl l))) else l
def bodyWR : Ss := match b_without_remarks with
  | .cons _ (.cons _ (.cons (.loop _ _ b) _)) => b
  | _ => .nil
theorem rstrip_run (a : List Nat) : Mt.run .rstrip (.str a) [] = some (.val (.str (TL.tl (Txt.rstrip (sOf a))))) := rfl
theorem step_wr (n : Nat) (S : Option Cell) {l : List Nat} {acc : List D} (h1 : 10 ∉ l) (ha : acc.length < 1000) :
    xss (G (n + 1)) md.T.xi md.sb bodyWR [S, some (.own acc), some (.val (.str l))] = .nx [S, some (.own (acc ++ [.str (cutR l)])), some (.val (.str l))] := by
  have hw : G (n + 1) "line_remark" [.str l] = .ok (.val (lr l)) := c_line_remark n l h1
  have hp : G (n + 1) "without_remark" [.str l] = .ok (.val (.str (pl l))) := c_without_remark n l
  have hlt : acc.length < LIM := by simp only [LIM]; omega
  unfold cutR
  by_cases hk : 35 ∈ l
  · rw [if_pos hk]
    simp only [bodyWR, b_without_remarks, ev_cst, ev_var, ev_take, ev_fz, ev_glb, ev_tup, ev_lst, ev_bin, ev_neg, ev_not, ev_and, ev_or, ev_ite, ev_cmp, ev_cmp2, ev_idx, ev_slc, ev_call, ev_callv, ev_bi, ev_biP, ev_mt, ev_mtP, ev_isi, evs_nil, evs_cons, evo_non, evo_som, evi_of, evi_rg1, evi_rg2, evi_enum, evi_zip, xs_pass, xs_asg, xs_own, xs_asgT, xs_ite, xs_ret, xs_retN, xs_expr, xs_raise, xs_app, xs_tr, xss_nil, xss_cons, bi_len_s, bi_len_t, bi_len_l, bi_len_c, bi_abs_i, bi_int_i, bi_tup_t, bi_tup_l, bi_lst_t, bi_lst_l, bi_all_l, bi_any_l, op_add_i, op_sub_i, op_mul_i, op_div_i, op_mod_i, op_add_s, cm_lt_i, cm_le_i, cm_gt_i, cm_ge_i, ci_lt_i, ci_le_i, cm_eq, cm_ne, cm_in, cm_nin, cm_is, cm_isn, is_nn, is_bn, is_in, is_sn, is_tn, is_bb, tr_non, tr_bl, tr_int, tr_str, tr_tup, tr_lst, ty_s, ix_t, ix_l, ix_c, ix_s, it_t, it_l, it_s, it_c, put_nm, put_2, put_3, lim_0, lim_1, lim_2, lim_3, lim_4, lim_5, lim_9, if_true, rbind_ok, rbind_ex, out_ok, out_ex, then_nx, then_rt, then_ex, of_some, frz_val, frz_own, cr_nx, cr_rt, cr_ex, get_zero, get_succ, Env.put, Option.map_some, Option.map_none, Option.bind_some, startE, List.map_cons, List.map_nil, List.length_cons, List.length_nil, List.cons_append, List.nil_append, List.replicate_succ, List.replicate_zero, List.set_cons_zero, List.set_cons_succ, Nat.reduceAdd, Nat.reduceSub, Nat.zero_add, hw, hp, lr_some hk, Bool.not_false, hlt, rstrip_run]
  · rw [if_neg hk]
    simp only [bodyWR, b_without_remarks, ev_cst, ev_var, ev_take, ev_fz, ev_glb, ev_tup, ev_lst, ev_bin, ev_neg, ev_not, ev_and, ev_or, ev_ite, ev_cmp, ev_cmp2, ev_idx, ev_slc, ev_call, ev_callv, ev_bi, ev_biP, ev_mt, ev_mtP, ev_isi, evs_nil, evs_cons, evo_non, evo_som, evi_of, evi_rg1, evi_rg2, evi_enum, evi_zip, xs_pass, xs_asg, xs_own, xs_asgT, xs_ite, xs_ret, xs_retN, xs_expr, xs_raise, xs_app, xs_tr, xss_nil, xss_cons, bi_len_s, bi_len_t, bi_len_l, bi_len_c, bi_abs_i, bi_int_i, bi_tup_t, bi_tup_l, bi_lst_t, bi_lst_l, bi_all_l, bi_any_l, op_add_i, op_sub_i, op_mul_i, op_div_i, op_mod_i, op_add_s, cm_lt_i, cm_le_i, cm_gt_i, cm_ge_i, ci_lt_i, ci_le_i, cm_eq, cm_ne, cm_in, cm_nin, cm_is, cm_isn, is_nn, is_bn, is_in, is_sn, is_tn, is_bb, tr_non, tr_bl, tr_int, tr_str, tr_tup, tr_lst, ty_s, ix_t, ix_l, ix_c, ix_s, it_t, it_l, it_s, it_c, put_nm, put_2, put_3, lim_0, lim_1, lim_2, lim_3, lim_4, lim_5, lim_9, if_true, rbind_ok, rbind_ex, out_ok, out_ex, then_nx, then_rt, then_ex, of_some, frz_val, frz_own, cr_nx, cr_rt, cr_ex, get_zero, get_succ, Env.put, Option.map_some, Option.map_none, Option.bind_some, startE, List.map_cons, List.map_nil, List.length_cons, List.length_nil, List.cons_append, List.nil_append, List.replicate_succ, List.replicate_zero, List.set_cons_zero, List.set_cons_succ, Nat.reduceAdd, Nat.reduceSub, Nat.zero_add, hw, lr_none hk, Bool.not_true, hlt]
def noOwn (x : Option Cell) : Prop := ∀ ds, x ≠ some (.own ds)
theorem free1 {i : Nat} {ρ : Bw.Env} (h : noOwn (ρ.get i)) : Tg.free (.nm i) ρ = true := by
  unfold Tg.free
  simp only [Tg.ixs, List.all_cons, List.all_nil, Bool.and_true]
  cases e : ρ.get i with
  | none => rfl
  | some c =>
    cases c with
    | val d => rfl
    | own ds => exact absurd e (h ds)
theorem loop_wr (n : Nat) (S : Option Cell) : ∀ {ls : List (List Nat)} {acc : List D} {x2 : Option Cell}, okL ls → acc.length + ls.length ≤ 1000 → noOwn x2 →
    ∃ y2, noOwn y2 ∧ forL (.nm 2) (fun ρ => xss (G (n + 1)) md.T.xi md.sb bodyWR ρ) (ls.map .str) [S, some (.own acc), x2] = .nx [S, some (.own (acc ++ ls.map fun l => .str (cutR l))), y2]
  | [], acc, x2, _, _, hx => ⟨x2, hx, by simp [forL]⟩
  | l :: ls, acc, x2, h, ha, _ => by
    have st := step_wr n S (l := l) (acc := acc) (h.2 l (by simp)).1 (by simp at ha; omega)
    rw [List.map_cons, List.map_cons]
    unfold forL
    have ep : Tg.put (.nm 2) (.str l) [S, some (.own acc), x2] = some [S, some (.own acc), some (.val (.str l))] := rfl
    simp only [ep]
    rw [st]
    have ih := loop_wr n S (ls := ls) (acc := acc ++ [.str (cutR l)]) (x2 := some (.val (.str l))) h.tail (by simp at ha ⊢; omega) (fun ds e => by cases e)
    rw [List.append_assoc] at ih
    exact ih
theorem allOf_str (l : List (List Nat)) : allOf D.asStr (l.map .str) = some l := by
  induction l with
  | nil => rfl
  | cons b l ih =>
    rw [List.map_cons]
    unfold allOf
    rw [ih]
    rfl
theorem joinL_nil : ∀ l : List (List Nat), TL.joinL [] l = l.flatten
  | [] => rfl
  | [a] => by simp [TL.joinL]
  | a :: b :: l => by
    have := joinL_nil (b :: l)
    simp only [TL.joinL, this, List.flatten_cons]
    simp
theorem flat_src : ∀ ls : List (List Nat), (ls.map fun l => l ++ [10]).flatten = src ls []
  | [] => rfl
  | l :: ls => by
    simp only [List.map_cons, List.flatten_cons, flat_src ls, src]
    simp
theorem join_run (ls : List (List Nat)) (h : (src ls []).length ≤ 100000) : Mt.run .join (.str []) [.lst ((ls.map fun l => l ++ [10]).map .str)] = some (.val (.str (src ls []))) := by
  show (match allOf D.asStr ((ls.map fun l => l ++ [10]).map .str) with
    | some xs => if (xs.map List.length).sum + xs.length * ([] : List Nat).length ≤ LIM then some (Cell.val (.str (TL.joinL [] xs))) else none
    | none => none) = _
  rw [allOf_str]
  simp only
  rw [joinL_nil, flat_src, if_pos]
  have e : ((ls.map fun l => l ++ [10]).map List.length).sum = (src ls []).length := by rw [← flat_src, List.length_flatten]
  rw [e]
  simp [LIM]
  omega
theorem cutR_len (l : List Nat) : (cutR l).length ≤ l.length := by
  unfold cutR
  split
  · have h := len_rstrip (sOf (pl l))
    have e1 : (sOf (pl l)).length = (pl l).length := by simp [sOf, Str.length]
    have e2 : (Txt.rstrip (sOf (pl l))).length = (TL.tl (Txt.rstrip (sOf (pl l)))).length := by simp [TL.tl, Str.length]
    rw [e1, e2] at h
    exact Nat.le_trans h (pl_len l)
  · exact Nat.le_refl _
theorem c_without_remarks (n : Nat) {ls : List (List Nat)} {t : List Nat} (h : okL ls) (ht : t.length ≤ 1000) (h10 : 10 ∉ t) : G (n + 4) "without_remarks" [.str (src ls t)] = match slR ls t with
    | some x => .ex x
    | none => .ok (.val (.str (src (ls.map cutR) []))) := by
  rw [G, Lv_eq (b := f_without_remarks) (by kernel_rfl) rfl]
  have hs : Lv md.T md.sb md.F (n + 3) "source_lines" [.str (src ls t)] = _ := c_sl n h ht h10
  cases hr : slR ls t with
  | some x =>
    rw [hr] at hs
    simp only [f_without_remarks, b_without_remarks, ev_cst, ev_var, ev_take, ev_fz, ev_glb, ev_tup, ev_lst, ev_bin, ev_neg, ev_not, ev_and, ev_or, ev_ite, ev_cmp, ev_cmp2, ev_idx, ev_slc, ev_call, ev_callv, ev_bi, ev_biP, ev_mt, ev_mtP, ev_isi, evs_nil, evs_cons, evo_non, evo_som, evi_of, evi_rg1, evi_rg2, evi_enum, evi_zip, xs_pass, xs_asg, xs_own, xs_asgT, xs_ite, xs_ret, xs_retN, xs_expr, xs_raise, xs_app, xs_tr, xss_nil, xss_cons, bi_len_s, bi_len_t, bi_len_l, bi_len_c, bi_abs_i, bi_int_i, bi_tup_t, bi_tup_l, bi_lst_t, bi_lst_l, bi_all_l, bi_any_l, op_add_i, op_sub_i, op_mul_i, op_div_i, op_mod_i, op_add_s, cm_lt_i, cm_le_i, cm_gt_i, cm_ge_i, ci_lt_i, ci_le_i, cm_eq, cm_ne, cm_in, cm_nin, cm_is, cm_isn, is_nn, is_bn, is_in, is_sn, is_tn, is_bb, tr_non, tr_bl, tr_int, tr_str, tr_tup, tr_lst, ty_s, ix_t, ix_l, ix_c, ix_s, it_t, it_l, it_s, it_c, put_nm, put_2, put_3, lim_0, lim_1, lim_2, lim_3, lim_4, lim_5, lim_9, if_true, rbind_ok, rbind_ex, out_ok, out_ex, then_nx, then_rt, then_ex, of_some, frz_val, frz_own, cr_nx, cr_rt, cr_ex, get_zero, get_succ, Env.put, Option.map_some, Option.map_none, Option.bind_some, startE, List.map_cons, List.map_nil, List.length_cons, List.length_nil, List.cons_append, List.nil_append, List.replicate_succ, List.replicate_zero, List.set_cons_zero, List.set_cons_succ, Nat.reduceAdd, Nat.reduceSub, Nat.zero_add, hs]
  | none =>
    rw [hr] at hs
    have hc : Lv md.T md.sb md.F (n + 3) "closed_lines" [.str (src ls t)] = .ok (.own (ls.map .str)) := c_closed_lines (n + 2) h ht h10
    obtain ⟨y2, hy2, lp⟩ := loop_wr (n + 2) (some (.val (.str (src ls t)))) (ls := ls) (acc := []) (x2 := none) h (by have := h.1; simp; omega) (fun ds e => by cases e)
    have hx : xss (Lv md.T md.sb md.F (n + 3)) md.T.xi md.sb b_without_remarks [some (.val (.str (src ls t))), none, none] =
        (forL (.nm 2) (fun ρ => xss (G (n + 3)) md.T.xi md.sb bodyWR ρ) (ls.map .str) [some (.val (.str (src ls t))), some (.own []), none]).andThen fun ρ => xss (Lv md.T md.sb md.F (n + 3)) md.T.xi md.sb (match b_without_remarks with
          | .cons _ (.cons _ (.cons _ r)) => r
          | _ => .nil) ρ := by
      simp only [b_without_remarks, bodyWR, ev_cst, ev_var, ev_take, ev_fz, ev_glb, ev_tup, ev_lst, ev_bin, ev_neg, ev_not, ev_and, ev_or, ev_ite, ev_cmp, ev_cmp2, ev_idx, ev_slc, ev_call, ev_callv, ev_bi, ev_biP, ev_mt, ev_mtP, ev_isi, evs_nil, evs_cons, evo_non, evo_som, evi_of, evi_rg1, evi_rg2, evi_enum, evi_zip, xs_pass, xs_asg, xs_own, xs_asgT, xs_ite, xs_ret, xs_retN, xs_expr, xs_raise, xs_app, xs_tr, xss_nil, xss_cons, bi_len_s, bi_len_t, bi_len_l, bi_len_c, bi_abs_i, bi_int_i, bi_tup_t, bi_tup_l, bi_lst_t, bi_lst_l, bi_all_l, bi_any_l, op_add_i, op_sub_i, op_mul_i, op_div_i, op_mod_i, op_add_s, cm_lt_i, cm_le_i, cm_gt_i, cm_ge_i, ci_lt_i, ci_le_i, cm_eq, cm_ne, cm_in, cm_nin, cm_is, cm_isn, is_nn, is_bn, is_in, is_sn, is_tn, is_bb, tr_non, tr_bl, tr_int, tr_str, tr_tup, tr_lst, ty_s, ix_t, ix_l, ix_c, ix_s, it_t, it_l, it_s, it_c, put_nm, put_2, put_3, lim_0, lim_1, lim_2, lim_3, lim_4, lim_5, lim_9, if_true, rbind_ok, rbind_ex, out_ok, out_ex, then_nx, then_rt, then_ex, of_some, frz_val, frz_own, cr_nx, cr_rt, cr_ex, get_zero, get_succ, Env.put, Option.map_some, Option.map_none, Option.bind_some, startE, List.map_cons, List.map_nil, List.length_cons, List.length_nil, List.cons_append, List.nil_append, List.replicate_succ, List.replicate_zero, List.set_cons_zero, List.set_cons_succ, Nat.reduceAdd, Nat.reduceSub, Nat.zero_add, hs, hc, xs]
    show (xss (Lv md.T md.sb md.F (n + 3)) md.T.xi md.sb b_without_remarks [some (.val (.str (src ls t))), none, none]).cr = _
    rw [hx, lp, then_nx]
    have hsl : (src (ls.map cutR) []).length ≤ 100000 := by
      have := src_len (ls := ls.map cutR) (t := []) fun l hl => by
        obtain ⟨m, hm, rfl⟩ := List.mem_map.mp hl
        exact Nat.le_trans (cutR_len m) (h.2 m hm).2
      have := h.1
      simp only [List.length_map, List.length_nil, Nat.add_zero] at *
      omega
    have hcm := comp_ok (Γ := Lv md.T md.sb md.F (n + 3)) (i := 2) (e := .bin .add (.var 2) (.cst (.str [10]))) (it := .of (.fz 1)) (u := fun l => .str (cutR l)) (h := fun l => .str (cutR l ++ [10])) (l := ls)
      (ρ0 := [some (.val (.str (src ls t))), some (.own ([] ++ ls.map fun l => .str (cutR l))), y2]) (ρ := [some (.val (.str (src ls t))), some (.val (.lst (ls.map fun l => .str (cutR l)))), y2]) (by simp only [ev_cst, ev_var, ev_take, ev_fz, ev_glb, ev_tup, ev_lst, ev_bin, ev_neg, ev_not, ev_and, ev_or, ev_ite, ev_cmp, ev_cmp2, ev_idx, ev_slc, ev_call, ev_callv, ev_bi, ev_biP, ev_mt, ev_mtP, ev_isi, evs_nil, evs_cons, evo_non, evo_som, evi_of, evi_rg1, evi_rg2, evi_enum, evi_zip, xs_pass, xs_asg, xs_own, xs_asgT, xs_ite, xs_ret, xs_retN, xs_expr, xs_raise, xs_app, xs_tr, xss_nil, xss_cons, bi_len_s, bi_len_t, bi_len_l, bi_len_c, bi_abs_i, bi_int_i, bi_tup_t, bi_tup_l, bi_lst_t, bi_lst_l, bi_all_l, bi_any_l, op_add_i, op_sub_i, op_mul_i, op_div_i, op_mod_i, op_add_s, cm_lt_i, cm_le_i, cm_gt_i, cm_ge_i, ci_lt_i, ci_le_i, cm_eq, cm_ne, cm_in, cm_nin, cm_is, cm_isn, is_nn, is_bn, is_in, is_sn, is_tn, is_bb, tr_non, tr_bl, tr_int, tr_str, tr_tup, tr_lst, ty_s, ix_t, ix_l, ix_c, ix_s, it_t, it_l, it_s, it_c, put_nm, put_2, put_3, lim_0, lim_1, lim_2, lim_3, lim_4, lim_5, lim_9, if_true, rbind_ok, rbind_ex, out_ok, out_ex, then_nx, then_rt, then_ex, of_some, frz_val, frz_own, cr_nx, cr_rt, cr_ex, get_zero, get_succ, Env.put, Option.map_some, Option.map_none, Option.bind_some, startE, List.map_cons, List.map_nil, List.length_cons, List.length_nil, List.cons_append, List.nil_append, List.replicate_succ, List.replicate_zero, List.set_cons_zero, List.set_cons_succ, Nat.reduceAdd, Nat.reduceSub, Nat.zero_add]) (free1 (by simpa only [ev_cst, ev_var, ev_take, ev_fz, ev_glb, ev_tup, ev_lst, ev_bin, ev_neg, ev_not, ev_and, ev_or, ev_ite, ev_cmp, ev_cmp2, ev_idx, ev_slc, ev_call, ev_callv, ev_bi, ev_biP, ev_mt, ev_mtP, ev_isi, evs_nil, evs_cons, evo_non, evo_som, evi_of, evi_rg1, evi_rg2, evi_enum, evi_zip, xs_pass, xs_asg, xs_own, xs_asgT, xs_ite, xs_ret, xs_retN, xs_expr, xs_raise, xs_app, xs_tr, xss_nil, xss_cons, bi_len_s, bi_len_t, bi_len_l, bi_len_c, bi_abs_i, bi_int_i, bi_tup_t, bi_tup_l, bi_lst_t, bi_lst_l, bi_all_l, bi_any_l, op_add_i, op_sub_i, op_mul_i, op_div_i, op_mod_i, op_add_s, cm_lt_i, cm_le_i, cm_gt_i, cm_ge_i, ci_lt_i, ci_le_i, cm_eq, cm_ne, cm_in, cm_nin, cm_is, cm_isn, is_nn, is_bn, is_in, is_sn, is_tn, is_bb, tr_non, tr_bl, tr_int, tr_str, tr_tup, tr_lst, ty_s, ix_t, ix_l, ix_c, ix_s, it_t, it_l, it_s, it_c, put_nm, put_2, put_3, lim_0, lim_1, lim_2, lim_3, lim_4, lim_5, lim_9, if_true, rbind_ok, rbind_ex, out_ok, out_ex, then_nx, then_rt, then_ex, of_some, frz_val, frz_own, cr_nx, cr_rt, cr_ex, get_zero, get_succ, Env.put, Option.map_some, Option.map_none, Option.bind_some, startE, List.map_cons, List.map_nil, List.length_cons, List.length_nil, List.cons_append, List.nil_append, List.replicate_succ, List.replicate_zero, List.set_cons_zero, List.set_cons_succ, Nat.reduceAdd, Nat.reduceSub, Nat.zero_add] using hy2)) (by have := h.1; simp [LIM]; omega) (fun l hl => ⟨.val (.str (cutR l ++ [10])), by
          have e1 : (cutR l).length + 1 ≤ LIM := by
            have := cutR_len l
            have := (h.2 l hl).2
            simp only [LIM]
            omega
          simp only [ev_cst, ev_var, ev_take, ev_fz, ev_glb, ev_tup, ev_lst, ev_bin, ev_neg, ev_not, ev_and, ev_or, ev_ite, ev_cmp, ev_cmp2, ev_idx, ev_slc, ev_call, ev_callv, ev_bi, ev_biP, ev_mt, ev_mtP, ev_isi, evs_nil, evs_cons, evo_non, evo_som, evi_of, evi_rg1, evi_rg2, evi_enum, evi_zip, xs_pass, xs_asg, xs_own, xs_asgT, xs_ite, xs_ret, xs_retN, xs_expr, xs_raise, xs_app, xs_tr, xss_nil, xss_cons, bi_len_s, bi_len_t, bi_len_l, bi_len_c, bi_abs_i, bi_int_i, bi_tup_t, bi_tup_l, bi_lst_t, bi_lst_l, bi_all_l, bi_any_l, op_add_i, op_sub_i, op_mul_i, op_div_i, op_mod_i, op_add_s, cm_lt_i, cm_le_i, cm_gt_i, cm_ge_i, ci_lt_i, ci_le_i, cm_eq, cm_ne, cm_in, cm_nin, cm_is, cm_isn, is_nn, is_bn, is_in, is_sn, is_tn, is_bb, tr_non, tr_bl, tr_int, tr_str, tr_tup, tr_lst, ty_s, ix_t, ix_l, ix_c, ix_s, it_t, it_l, it_s, it_c, put_nm, put_2, put_3, lim_0, lim_1, lim_2, lim_3, lim_4, lim_5, lim_9, if_true, rbind_ok, rbind_ex, out_ok, out_ex, then_nx, then_rt, then_ex, of_some, frz_val, frz_own, cr_nx, cr_rt, cr_ex, get_zero, get_succ, Env.put, Option.map_some, Option.map_none, Option.bind_some, startE, List.map_cons, List.map_nil, List.length_cons, List.length_nil, List.cons_append, List.nil_append, List.replicate_succ, List.replicate_zero, List.set_cons_zero, List.set_cons_succ, Nat.reduceAdd, Nat.reduceSub, Nat.zero_add, e1], rfl⟩)
    have hj : Mt.run .join (.str []) [.lst (ls.map fun l => D.str (cutR l ++ [10]))] = some (.val (.str (src (ls.map cutR) []))) := by
      have z := join_run (ls.map cutR) hsl
      rw [List.map_map, List.map_map] at z
      exact z
    simp only [b_without_remarks, List.nil_append, ev_cst, ev_var, ev_take, ev_fz, ev_glb, ev_tup, ev_lst, ev_bin, ev_neg, ev_not, ev_and, ev_or, ev_ite, ev_cmp, ev_cmp2, ev_idx, ev_slc, ev_call, ev_callv, ev_bi, ev_biP, ev_mt, ev_mtP, ev_isi, evs_nil, evs_cons, evo_non, evo_som, evi_of, evi_rg1, evi_rg2, evi_enum, evi_zip, xs_pass, xs_asg, xs_own, xs_asgT, xs_ite, xs_ret, xs_retN, xs_expr, xs_raise, xs_app, xs_tr, xss_nil, xss_cons, bi_len_s, bi_len_t, bi_len_l, bi_len_c, bi_abs_i, bi_int_i, bi_tup_t, bi_tup_l, bi_lst_t, bi_lst_l, bi_all_l, bi_any_l, op_add_i, op_sub_i, op_mul_i, op_div_i, op_mod_i, op_add_s, cm_lt_i, cm_le_i, cm_gt_i, cm_ge_i, ci_lt_i, ci_le_i, cm_eq, cm_ne, cm_in, cm_nin, cm_is, cm_isn, is_nn, is_bn, is_in, is_sn, is_tn, is_bb, tr_non, tr_bl, tr_int, tr_str, tr_tup, tr_lst, ty_s, ix_t, ix_l, ix_c, ix_s, it_t, it_l, it_s, it_c, put_nm, put_2, put_3, lim_0, lim_1, lim_2, lim_3, lim_4, lim_5, lim_9, if_true, rbind_ok, rbind_ex, out_ok, out_ex, then_nx, then_rt, then_ex, of_some, frz_val, frz_own, cr_nx, cr_rt, cr_ex, get_zero, get_succ, Env.put, Option.map_some, Option.map_none, Option.bind_some, startE, List.map_cons, List.map_nil, List.length_cons, List.length_nil, List.cons_append, List.nil_append, List.replicate_succ, List.replicate_zero, List.set_cons_zero, List.set_cons_succ, Nat.reduceAdd, Nat.reduceSub, Nat.zero_add] at hcm ⊢
    simp only [hcm, ev_cst, ev_var, ev_take, ev_fz, ev_glb, ev_tup, ev_lst, ev_bin, ev_neg, ev_not, ev_and, ev_or, ev_ite, ev_cmp, ev_cmp2, ev_idx, ev_slc, ev_call, ev_callv, ev_bi, ev_biP, ev_mt, ev_mtP, ev_isi, evs_nil, evs_cons, evo_non, evo_som, evi_of, evi_rg1, evi_rg2, evi_enum, evi_zip, xs_pass, xs_asg, xs_own, xs_asgT, xs_ite, xs_ret, xs_retN, xs_expr, xs_raise, xs_app, xs_tr, xss_nil, xss_cons, bi_len_s, bi_len_t, bi_len_l, bi_len_c, bi_abs_i, bi_int_i, bi_tup_t, bi_tup_l, bi_lst_t, bi_lst_l, bi_all_l, bi_any_l, op_add_i, op_sub_i, op_mul_i, op_div_i, op_mod_i, op_add_s, cm_lt_i, cm_le_i, cm_gt_i, cm_ge_i, ci_lt_i, ci_le_i, cm_eq, cm_ne, cm_in, cm_nin, cm_is, cm_isn, is_nn, is_bn, is_in, is_sn, is_tn, is_bb, tr_non, tr_bl, tr_int, tr_str, tr_tup, tr_lst, ty_s, ix_t, ix_l, ix_c, ix_s, it_t, it_l, it_s, it_c, put_nm, put_2, put_3, lim_0, lim_1, lim_2, lim_3, lim_4, lim_5, lim_9, if_true, rbind_ok, rbind_ex, out_ok, out_ex, then_nx, then_rt, then_ex, of_some, frz_val, frz_own, cr_nx, cr_rt, cr_ex, get_zero, get_succ, Env.put, Option.map_some, Option.map_none, Option.bind_some, startE, List.map_cons, List.map_nil, List.length_cons, List.length_nil, List.cons_append, List.nil_append, List.replicate_succ, List.replicate_zero, List.set_cons_zero, List.set_cons_succ, Nat.reduceAdd, Nat.reduceSub, Nat.zero_add, hj]
end K79

set_option Elab.async false
set_option linter.all false
set_option maxRecDepth 100000
namespace K79
open Bw PySem PySem.Spec PyProof.Rows L2
theorem small_c {i : Int} (h : smallI i = true) (j : Int) : (smallI j || smallI i) = true := by rw [h]; simp
theorem c_mixed (n : Nat) (c k : Int) : ∃ v : Int, G (n + 1) "_law_mixed" [.int c, .int k] = .ok (.val (.int v)) := by
  rw [G, Lv_eq (b := f__law_mixed) (by kernel_rfl) rfl]
  have h1 := small_c (i := 48271) (by decide)
  have h2 := small_c (i := 69621) (by decide)
  have h3 := small_c (i := 16807) (by decide)
  have h4 := small_c (i := 31) (by decide)
  have p1 : (0 : Int) < 2147483647 := by omega
  have p2 : (0 : Int) < 2147483629 := by omega
  simp only [f__law_mixed, b__law_mixed, ev_cst, ev_var, ev_take, ev_fz, ev_glb, ev_tup, ev_lst, ev_bin, ev_neg, ev_not, ev_and, ev_or, ev_ite, ev_cmp, ev_cmp2, ev_idx, ev_slc, ev_call, ev_callv, ev_bi, ev_biP, ev_mt, ev_mtP, ev_isi, evs_nil, evs_cons, evo_non, evo_som, evi_of, evi_rg1, evi_rg2, evi_enum, evi_zip, xs_pass, xs_asg, xs_own, xs_asgT, xs_ite, xs_ret, xs_retN, xs_expr, xs_raise, xs_app, xs_tr, xss_nil, xss_cons, bi_len_s, bi_len_t, bi_len_l, bi_len_c, bi_abs_i, bi_int_i, bi_tup_t, bi_tup_l, bi_lst_t, bi_lst_l, bi_all_l, bi_any_l, op_add_i, op_sub_i, op_mul_i, op_div_i, op_mod_i, op_add_s, cm_lt_i, cm_le_i, cm_gt_i, cm_ge_i, ci_lt_i, ci_le_i, cm_eq, cm_ne, cm_in, cm_nin, cm_is, cm_isn, is_nn, is_bn, is_in, is_sn, is_tn, is_bb, tr_non, tr_bl, tr_int, tr_str, tr_tup, tr_lst, ty_s, ix_t, ix_l, ix_c, ix_s, it_t, it_l, it_s, it_c, put_nm, put_2, put_3, lim_0, lim_1, lim_2, lim_3, lim_4, lim_5, lim_9, if_true, rbind_ok, rbind_ex, out_ok, out_ex, then_nx, then_rt, then_ex, of_some, frz_val, frz_own, cr_nx, cr_rt, cr_ex, get_zero, get_succ, Env.put, Option.map_some, Option.map_none, Option.bind_some, startE, List.map_cons, List.map_nil, List.length_cons, List.length_nil, List.cons_append, List.nil_append, List.replicate_succ, List.replicate_zero, List.set_cons_zero, List.set_cons_succ, Nat.reduceAdd, Nat.reduceSub, Nat.zero_add, h1, h2, h3, h4, p1, p2]
  exact ⟨_, rfl⟩
theorem loop_left (n : Nat) (A B : Option Cell) : ∀ {ds : List D} {v : Int} {x3 : Option Cell}, ∃ v' y3, forL (.nm 3) (fun ρ => xss (G n) md.T.xi md.sb (.cons (.asg 2 (.bin .fdiv (.var 2) (.cst (.int 1000)))) .nil) ρ) ds [A, B, some (.val (.int v)), x3] = .nx [A, B, some (.val (.int v')), y3]
  | [], v, x3 => ⟨v, x3, rfl⟩
  | d :: ds, v, x3 => by
    unfold forL
    have p : (0 : Int) < 1000 ∧ (1000 : Int) < 1073741824 := by omega
    have st : xss (G n) md.T.xi md.sb (.cons (.asg 2 (.bin .fdiv (.var 2) (.cst (.int 1000)))) .nil) [A, B, some (.val (.int v)), some (.val d)] = .nx [A, B, some (.val (.int (v / 1000))), some (.val d)] := by
      simp only [ev_cst, ev_var, ev_take, ev_fz, ev_glb, ev_tup, ev_lst, ev_bin, ev_neg, ev_not, ev_and, ev_or, ev_ite, ev_cmp, ev_cmp2, ev_idx, ev_slc, ev_call, ev_callv, ev_bi, ev_biP, ev_mt, ev_mtP, ev_isi, evs_nil, evs_cons, evo_non, evo_som, evi_of, evi_rg1, evi_rg2, evi_enum, evi_zip, xs_pass, xs_asg, xs_own, xs_asgT, xs_ite, xs_ret, xs_retN, xs_expr, xs_raise, xs_app, xs_tr, xss_nil, xss_cons, bi_len_s, bi_len_t, bi_len_l, bi_len_c, bi_abs_i, bi_int_i, bi_tup_t, bi_tup_l, bi_lst_t, bi_lst_l, bi_all_l, bi_any_l, op_add_i, op_sub_i, op_mul_i, op_div_i, op_mod_i, op_add_s, cm_lt_i, cm_le_i, cm_gt_i, cm_ge_i, ci_lt_i, ci_le_i, cm_eq, cm_ne, cm_in, cm_nin, cm_is, cm_isn, is_nn, is_bn, is_in, is_sn, is_tn, is_bb, tr_non, tr_bl, tr_int, tr_str, tr_tup, tr_lst, ty_s, ix_t, ix_l, ix_c, ix_s, it_t, it_l, it_s, it_c, put_nm, put_2, put_3, lim_0, lim_1, lim_2, lim_3, lim_4, lim_5, lim_9, if_true, rbind_ok, rbind_ex, out_ok, out_ex, then_nx, then_rt, then_ex, of_some, frz_val, frz_own, cr_nx, cr_rt, cr_ex, get_zero, get_succ, Env.put, Option.map_some, Option.map_none, Option.bind_some, startE, List.map_cons, List.map_nil, List.length_cons, List.length_nil, List.cons_append, List.nil_append, List.replicate_succ, List.replicate_zero, List.set_cons_zero, List.set_cons_succ, Nat.reduceAdd, Nat.reduceSub, Nat.zero_add, p, and_self]
    have ep : Tg.put (.nm 3) d [A, B, some (.val (.int v)), x3] = some [A, B, some (.val (.int v)), some (.val d)] := rfl
    simp only [ep, st, then_nx]
    exact loop_left n A B
theorem c_left (n : Nat) (c t : Int) (ht : small62 t = true) : ∃ v : Int, G (n + 1) "_law_left" [.int c, .int t] = .ok (.val (.int v)) := by
  rw [G, Lv_eq (b := f__law_left) (by kernel_rfl) rfl]
  obtain ⟨v, y, lp⟩ := loop_left n (some (.val (.int c))) (some (.val (.int t))) (ds := rangeL 0 t.toNat) (v := c) (x3 := none)
  refine ⟨v, ?_⟩
  simp only [ev_cst, ev_var, ev_take, ev_fz, ev_glb, ev_tup, ev_lst, ev_bin, ev_neg, ev_not, ev_and, ev_or, ev_ite, ev_cmp, ev_cmp2, ev_idx, ev_slc, ev_call, ev_callv, ev_bi, ev_biP, ev_mt, ev_mtP, ev_isi, evs_nil, evs_cons, evo_non, evo_som, evi_of, evi_rg1, evi_rg2, evi_enum, evi_zip, xs_pass, xs_asg, xs_own, xs_asgT, xs_ite, xs_ret, xs_retN, xs_expr, xs_raise, xs_app, xs_tr, xss_nil, xss_cons, bi_len_s, bi_len_t, bi_len_l, bi_len_c, bi_abs_i, bi_int_i, bi_tup_t, bi_tup_l, bi_lst_t, bi_lst_l, bi_all_l, bi_any_l, op_add_i, op_sub_i, op_mul_i, op_div_i, op_mod_i, op_add_s, cm_lt_i, cm_le_i, cm_gt_i, cm_ge_i, ci_lt_i, ci_le_i, cm_eq, cm_ne, cm_in, cm_nin, cm_is, cm_isn, is_nn, is_bn, is_in, is_sn, is_tn, is_bb, tr_non, tr_bl, tr_int, tr_str, tr_tup, tr_lst, ty_s, ix_t, ix_l, ix_c, ix_s, it_t, it_l, it_s, it_c, put_nm, put_2, put_3, lim_0, lim_1, lim_2, lim_3, lim_4, lim_5, lim_9, if_true, rbind_ok, rbind_ex, out_ok, out_ex, then_nx, then_rt, then_ex, of_some, frz_val, frz_own, cr_nx, cr_rt, cr_ex, get_zero, get_succ, Env.put, Option.map_some, Option.map_none, Option.bind_some, startE, List.map_cons, List.map_nil, List.length_cons, List.length_nil, List.cons_append, List.nil_append, List.replicate_succ, List.replicate_zero, List.set_cons_zero, List.set_cons_succ, Nat.reduceAdd, Nat.reduceSub, Nat.zero_add] at lp
  simp only [f__law_left, b__law_left, ev_cst, ev_var, ev_take, ev_fz, ev_glb, ev_tup, ev_lst, ev_bin, ev_neg, ev_not, ev_and, ev_or, ev_ite, ev_cmp, ev_cmp2, ev_idx, ev_slc, ev_call, ev_callv, ev_bi, ev_biP, ev_mt, ev_mtP, ev_isi, evs_nil, evs_cons, evo_non, evo_som, evi_of, evi_rg1, evi_rg2, evi_enum, evi_zip, xs_pass, xs_asg, xs_own, xs_asgT, xs_ite, xs_ret, xs_retN, xs_expr, xs_raise, xs_app, xs_tr, xss_nil, xss_cons, bi_len_s, bi_len_t, bi_len_l, bi_len_c, bi_abs_i, bi_int_i, bi_tup_t, bi_tup_l, bi_lst_t, bi_lst_l, bi_all_l, bi_any_l, op_add_i, op_sub_i, op_mul_i, op_div_i, op_mod_i, op_add_s, cm_lt_i, cm_le_i, cm_gt_i, cm_ge_i, ci_lt_i, ci_le_i, cm_eq, cm_ne, cm_in, cm_nin, cm_is, cm_isn, is_nn, is_bn, is_in, is_sn, is_tn, is_bb, tr_non, tr_bl, tr_int, tr_str, tr_tup, tr_lst, ty_s, ix_t, ix_l, ix_c, ix_s, it_t, it_l, it_s, it_c, put_nm, put_2, put_3, lim_0, lim_1, lim_2, lim_3, lim_4, lim_5, lim_9, if_true, rbind_ok, rbind_ex, out_ok, out_ex, then_nx, then_rt, then_ex, of_some, frz_val, frz_own, cr_nx, cr_rt, cr_ex, get_zero, get_succ, Env.put, Option.map_some, Option.map_none, Option.bind_some, startE, List.map_cons, List.map_nil, List.length_cons, List.length_nil, List.cons_append, List.nil_append, List.replicate_succ, List.replicate_zero, List.set_cons_zero, List.set_cons_succ, Nat.reduceAdd, Nat.reduceSub, Nat.zero_add, xs_loop, ht, lp]
theorem atI_some {α : Type} {l : List α} {i : Int} (h0 : 0 ≤ i) (h1 : i < l.length) : ∃ v ∈ l, L2.atI l i = some v := by
  have hn : i.toNat < l.length := by omega
  refine ⟨l[i.toNat], List.getElem_mem hn, ?_⟩
  unfold L2.atI L2.ixN
  rw [if_pos h0, if_pos h1]
  simp [hn]
theorem small62_of {i : Int} (h : 0 ≤ i ∧ i ≤ 100000) : small62 i = true := by
  unfold small62
  simp
  omega
theorem c_number (n : Nat) (ns : List Int) (hl : ns.length ≤ 63) (k : Int) (h0 : 0 ≤ k) (h1 : k ≤ 1000) : ∃ v : Int, G (n + 2) "_law_number" [.scr ns, .int k] = .ok (.val (.int v)) := by
  rw [G, Lv_eq (b := f__law_number) (by kernel_rfl) rfl]
  by_cases hz : ns.length = 0
  · obtain ⟨v, hv⟩ := c_mixed n 0 k
    have hv : Lv md.T md.sb md.F (n + 1) "_law_mixed" [.int 0, .int k] = _ := hv
    refine ⟨v, ?_⟩
    have e : D.eqv (.int ((ns.length : Nat) : Int)) (.int 0) = true := by simp [D.eqv, hz]
    simp only [f__law_number, b__law_number, ev_cst, ev_var, ev_take, ev_fz, ev_glb, ev_tup, ev_lst, ev_bin, ev_neg, ev_not, ev_and, ev_or, ev_ite, ev_cmp, ev_cmp2, ev_idx, ev_slc, ev_call, ev_callv, ev_bi, ev_biP, ev_mt, ev_mtP, ev_isi, evs_nil, evs_cons, evo_non, evo_som, evi_of, evi_rg1, evi_rg2, evi_enum, evi_zip, xs_pass, xs_asg, xs_own, xs_asgT, xs_ite, xs_ret, xs_retN, xs_expr, xs_raise, xs_app, xs_tr, xss_nil, xss_cons, bi_len_s, bi_len_t, bi_len_l, bi_len_c, bi_abs_i, bi_int_i, bi_tup_t, bi_tup_l, bi_lst_t, bi_lst_l, bi_all_l, bi_any_l, op_add_i, op_sub_i, op_mul_i, op_div_i, op_mod_i, op_add_s, cm_lt_i, cm_le_i, cm_gt_i, cm_ge_i, ci_lt_i, ci_le_i, cm_eq, cm_ne, cm_in, cm_nin, cm_is, cm_isn, is_nn, is_bn, is_in, is_sn, is_tn, is_bb, tr_non, tr_bl, tr_int, tr_str, tr_tup, tr_lst, ty_s, ix_t, ix_l, ix_c, ix_s, it_t, it_l, it_s, it_c, put_nm, put_2, put_3, lim_0, lim_1, lim_2, lim_3, lim_4, lim_5, lim_9, if_true, rbind_ok, rbind_ex, out_ok, out_ex, then_nx, then_rt, then_ex, of_some, frz_val, frz_own, cr_nx, cr_rt, cr_ex, get_zero, get_succ, Env.put, Option.map_some, Option.map_none, Option.bind_some, startE, List.map_cons, List.map_nil, List.length_cons, List.length_nil, List.cons_append, List.nil_append, List.replicate_succ, List.replicate_zero, List.set_cons_zero, List.set_cons_succ, Nat.reduceAdd, Nat.reduceSub, Nat.zero_add, D.flat, e, Bool.and_self, hv]
  · have hp : (0 : Int) < (ns.length : Nat) := by omega
    have hp2 : (0 : Int) < (ns.length : Nat) ∧ ((ns.length : Nat) : Int) < 1073741824 := by omega
    have e : D.eqv (.int ((ns.length : Nat) : Int)) (.int 0) = false := by simp [D.eqv]; intro z; rw [z] at hz; exact hz rfl
    obtain ⟨c, _, hc⟩ := atI_some (l := ns) (i := k % (ns.length : Nat)) (Int.emod_nonneg _ (by omega)) (Int.emod_lt_of_pos _ hp)
    have hd : 0 ≤ k / (ns.length : Nat) ∧ k / (ns.length : Nat) ≤ 100000 := by
      refine ⟨Int.ediv_nonneg h0 (by omega), ?_⟩
      have := Int.ediv_le_self (b := (ns.length : Nat)) h0
      omega
    obtain ⟨v1, hv1⟩ := c_left (n + 1 - 1) (if c < 0 then -c else c) (k / (ns.length : Nat)) (small62_of hd)
    have hv1 : Lv md.T md.sb md.F (n + 1) "_law_left" [.int (if c < 0 then -c else c), .int (k / (ns.length : Nat))] = _ := hv1
    obtain ⟨v2, hv2⟩ := c_mixed n c k
    have hv2 : Lv md.T md.sb md.F (n + 1) "_law_mixed" [.int c, .int k] = _ := hv2
    have p3 : (0 : Int) < 1000 := by omega
    have hpow : Op.run .pow (.int 10) (.int 18) = some (.val (.int (10 ^ (18 : Int).toNat))) := rfl
    simp only [f__law_number, b__law_number, ev_cst, ev_var, ev_take, ev_fz, ev_glb, ev_tup, ev_lst, ev_bin, ev_neg, ev_not, ev_and, ev_or, ev_ite, ev_cmp, ev_cmp2, ev_idx, ev_slc, ev_call, ev_callv, ev_bi, ev_biP, ev_mt, ev_mtP, ev_isi, evs_nil, evs_cons, evo_non, evo_som, evi_of, evi_rg1, evi_rg2, evi_enum, evi_zip, xs_pass, xs_asg, xs_own, xs_asgT, xs_ite, xs_ret, xs_retN, xs_expr, xs_raise, xs_app, xs_tr, xss_nil, xss_cons, bi_len_s, bi_len_t, bi_len_l, bi_len_c, bi_abs_i, bi_int_i, bi_tup_t, bi_tup_l, bi_lst_t, bi_lst_l, bi_all_l, bi_any_l, op_add_i, op_sub_i, op_mul_i, op_div_i, op_mod_i, op_add_s, cm_lt_i, cm_le_i, cm_gt_i, cm_ge_i, ci_lt_i, ci_le_i, cm_eq, cm_ne, cm_in, cm_nin, cm_is, cm_isn, is_nn, is_bn, is_in, is_sn, is_tn, is_bb, tr_non, tr_bl, tr_int, tr_str, tr_tup, tr_lst, ty_s, ix_t, ix_l, ix_c, ix_s, it_t, it_l, it_s, it_c, put_nm, put_2, put_3, lim_0, lim_1, lim_2, lim_3, lim_4, lim_5, lim_9, if_true, rbind_ok, rbind_ex, out_ok, out_ex, then_nx, then_rt, then_ex, of_some, frz_val, frz_own, cr_nx, cr_rt, cr_ex, get_zero, get_succ, Env.put, Option.map_some, Option.map_none, Option.bind_some, startE, List.map_cons, List.map_nil, List.length_cons, List.length_nil, List.cons_append, List.nil_append, List.replicate_succ, List.replicate_zero, List.set_cons_zero, List.set_cons_succ, Nat.reduceAdd, Nat.reduceSub, Nat.zero_add, D.flat, e, Bool.and_self, hp, hp2, and_self, hc, hv1, hv2, hpow, p3]
    by_cases g1 : (10 : Int) ^ (18 : Int).toNat ≤ (if c < 0 then -c else c)
    · by_cases g2 : (0 : Int) < v1
      · simp only [g1, g2, decide_true, ev_cst, ev_var, ev_take, ev_fz, ev_glb, ev_tup, ev_lst, ev_bin, ev_neg, ev_not, ev_and, ev_or, ev_ite, ev_cmp, ev_cmp2, ev_idx, ev_slc, ev_call, ev_callv, ev_bi, ev_biP, ev_mt, ev_mtP, ev_isi, evs_nil, evs_cons, evo_non, evo_som, evi_of, evi_rg1, evi_rg2, evi_enum, evi_zip, xs_pass, xs_asg, xs_own, xs_asgT, xs_ite, xs_ret, xs_retN, xs_expr, xs_raise, xs_app, xs_tr, xss_nil, xss_cons, bi_len_s, bi_len_t, bi_len_l, bi_len_c, bi_abs_i, bi_int_i, bi_tup_t, bi_tup_l, bi_lst_t, bi_lst_l, bi_all_l, bi_any_l, op_add_i, op_sub_i, op_mul_i, op_div_i, op_mod_i, op_add_s, cm_lt_i, cm_le_i, cm_gt_i, cm_ge_i, ci_lt_i, ci_le_i, cm_eq, cm_ne, cm_in, cm_nin, cm_is, cm_isn, is_nn, is_bn, is_in, is_sn, is_tn, is_bb, tr_non, tr_bl, tr_int, tr_str, tr_tup, tr_lst, ty_s, ix_t, ix_l, ix_c, ix_s, it_t, it_l, it_s, it_c, put_nm, put_2, put_3, lim_0, lim_1, lim_2, lim_3, lim_4, lim_5, lim_9, if_true, rbind_ok, rbind_ex, out_ok, out_ex, then_nx, then_rt, then_ex, of_some, frz_val, frz_own, cr_nx, cr_rt, cr_ex, get_zero, get_succ, Env.put, Option.map_some, Option.map_none, Option.bind_some, startE, List.map_cons, List.map_nil, List.length_cons, List.length_nil, List.cons_append, List.nil_append, List.replicate_succ, List.replicate_zero, List.set_cons_zero, List.set_cons_succ, Nat.reduceAdd, Nat.reduceSub, Nat.zero_add]
        exact ⟨_, rfl⟩
      · simp only [g1, g2, decide_true, decide_false, ev_cst, ev_var, ev_take, ev_fz, ev_glb, ev_tup, ev_lst, ev_bin, ev_neg, ev_not, ev_and, ev_or, ev_ite, ev_cmp, ev_cmp2, ev_idx, ev_slc, ev_call, ev_callv, ev_bi, ev_biP, ev_mt, ev_mtP, ev_isi, evs_nil, evs_cons, evo_non, evo_som, evi_of, evi_rg1, evi_rg2, evi_enum, evi_zip, xs_pass, xs_asg, xs_own, xs_asgT, xs_ite, xs_ret, xs_retN, xs_expr, xs_raise, xs_app, xs_tr, xss_nil, xss_cons, bi_len_s, bi_len_t, bi_len_l, bi_len_c, bi_abs_i, bi_int_i, bi_tup_t, bi_tup_l, bi_lst_t, bi_lst_l, bi_all_l, bi_any_l, op_add_i, op_sub_i, op_mul_i, op_div_i, op_mod_i, op_add_s, cm_lt_i, cm_le_i, cm_gt_i, cm_ge_i, ci_lt_i, ci_le_i, cm_eq, cm_ne, cm_in, cm_nin, cm_is, cm_isn, is_nn, is_bn, is_in, is_sn, is_tn, is_bb, tr_non, tr_bl, tr_int, tr_str, tr_tup, tr_lst, ty_s, ix_t, ix_l, ix_c, ix_s, it_t, it_l, it_s, it_c, put_nm, put_2, put_3, lim_0, lim_1, lim_2, lim_3, lim_4, lim_5, lim_9, if_true, rbind_ok, rbind_ex, out_ok, out_ex, then_nx, then_rt, then_ex, of_some, frz_val, frz_own, cr_nx, cr_rt, cr_ex, get_zero, get_succ, Env.put, Option.map_some, Option.map_none, Option.bind_some, startE, List.map_cons, List.map_nil, List.length_cons, List.length_nil, List.cons_append, List.nil_append, List.replicate_succ, List.replicate_zero, List.set_cons_zero, List.set_cons_succ, Nat.reduceAdd, Nat.reduceSub, Nat.zero_add, hv2]
        exact ⟨_, rfl⟩
    · simp only [g1, decide_false, ev_cst, ev_var, ev_take, ev_fz, ev_glb, ev_tup, ev_lst, ev_bin, ev_neg, ev_not, ev_and, ev_or, ev_ite, ev_cmp, ev_cmp2, ev_idx, ev_slc, ev_call, ev_callv, ev_bi, ev_biP, ev_mt, ev_mtP, ev_isi, evs_nil, evs_cons, evo_non, evo_som, evi_of, evi_rg1, evi_rg2, evi_enum, evi_zip, xs_pass, xs_asg, xs_own, xs_asgT, xs_ite, xs_ret, xs_retN, xs_expr, xs_raise, xs_app, xs_tr, xss_nil, xss_cons, bi_len_s, bi_len_t, bi_len_l, bi_len_c, bi_abs_i, bi_int_i, bi_tup_t, bi_tup_l, bi_lst_t, bi_lst_l, bi_all_l, bi_any_l, op_add_i, op_sub_i, op_mul_i, op_div_i, op_mod_i, op_add_s, cm_lt_i, cm_le_i, cm_gt_i, cm_ge_i, ci_lt_i, ci_le_i, cm_eq, cm_ne, cm_in, cm_nin, cm_is, cm_isn, is_nn, is_bn, is_in, is_sn, is_tn, is_bb, tr_non, tr_bl, tr_int, tr_str, tr_tup, tr_lst, ty_s, ix_t, ix_l, ix_c, ix_s, it_t, it_l, it_s, it_c, put_nm, put_2, put_3, lim_0, lim_1, lim_2, lim_3, lim_4, lim_5, lim_9, if_true, rbind_ok, rbind_ex, out_ok, out_ex, then_nx, then_rt, then_ex, of_some, frz_val, frz_own, cr_nx, cr_rt, cr_ex, get_zero, get_succ, Env.put, Option.map_some, Option.map_none, Option.bind_some, startE, List.map_cons, List.map_nil, List.length_cons, List.length_nil, List.cons_append, List.nil_append, List.replicate_succ, List.replicate_zero, List.set_cons_zero, List.set_cons_succ, Nat.reduceAdd, Nat.reduceSub, Nat.zero_add, hv2]
      exact ⟨_, rfl⟩
/-! ### a line -/
def W9 : List D := [.str [97, 116], .str [40], .str [41], .str [108, 101, 102, 116], .str [122, 122], .str [110, 111, 116], .str [40, 97], .str [98, 41], .str [115, 105, 103, 110, 115]]
def bodyLL : Ss := match b__law_line with
  | .cons _ (.cons _ (.cons (.loop _ _ b) _)) => b
  | _ => .nil
theorem at_mod {l : List D} {x m : Int} (hm : m = l.length) (h : 0 < m) : ∃ v ∈ l, L2.atI l (x % m) = some v := atI_some (Int.emod_nonneg _ (by omega)) (by rw [← hm]; exact Int.emod_lt_of_pos _ h)
theorem step_ll (n : Nat) (S K : Option Cell) {v : Int} {j : Nat} (hj : j < 5) {acc : List D} {x5 : Option Cell} (ha : acc.length < 1000) :
    ∃ d ∈ W9, xss (G n) md.T.xi md.sb bodyLL [S, K, some (.val (.int v)), some (.own acc), some (.val (.int (0 + (j : Nat)))), x5] = .nx [S, K, some (.val (.int v)), some (.own (acc ++ [d])), some (.val (.int (0 + (j : Nat)))), x5] := by
  have hlt : acc.length < LIM := by simp only [LIM]; omega
  obtain ⟨q, hq, hq0⟩ : ∃ q : Int, L2.atI [D.int 7, .int 61, .int 509, .int 4001, .int 33331] (0 + (j : Nat)) = some (.int q) ∧ (0 < q ∧ q < 1073741824) := by
    have : j = 0 ∨ j = 1 ∨ j = 2 ∨ j = 3 ∨ j = 4 := by omega
    rcases this with rfl | rfl | rfl | rfl | rfl
    · exact ⟨7, rfl, by omega⟩
    · exact ⟨61, rfl, by omega⟩
    · exact ⟨509, rfl, by omega⟩
    · exact ⟨4001, rfl, by omega⟩
    · exact ⟨33331, rfl, by omega⟩
  obtain ⟨d, hd, he⟩ := at_mod (l := W9) (x := v / q) (m := 9) rfl (by omega)
  have p9 : (0 : Int) < 9 := by omega
  refine ⟨d, hd, ?_⟩
  unfold W9 at he
  simp only [bodyLL, b__law_line, ev_cst, ev_var, ev_take, ev_fz, ev_glb, ev_tup, ev_lst, ev_bin, ev_neg, ev_not, ev_and, ev_or, ev_ite, ev_cmp, ev_cmp2, ev_idx, ev_slc, ev_call, ev_callv, ev_bi, ev_biP, ev_mt, ev_mtP, ev_isi, evs_nil, evs_cons, evo_non, evo_som, evi_of, evi_rg1, evi_rg2, evi_enum, evi_zip, xs_pass, xs_asg, xs_own, xs_asgT, xs_ite, xs_ret, xs_retN, xs_expr, xs_raise, xs_app, xs_tr, xss_nil, xss_cons, bi_len_s, bi_len_t, bi_len_l, bi_len_c, bi_abs_i, bi_int_i, bi_tup_t, bi_tup_l, bi_lst_t, bi_lst_l, bi_all_l, bi_any_l, op_add_i, op_sub_i, op_mul_i, op_div_i, op_mod_i, op_add_s, cm_lt_i, cm_le_i, cm_gt_i, cm_ge_i, ci_lt_i, ci_le_i, cm_eq, cm_ne, cm_in, cm_nin, cm_is, cm_isn, is_nn, is_bn, is_in, is_sn, is_tn, is_bb, tr_non, tr_bl, tr_int, tr_str, tr_tup, tr_lst, ty_s, ix_t, ix_l, ix_c, ix_s, it_t, it_l, it_s, it_c, put_nm, put_2, put_3, lim_0, lim_1, lim_2, lim_3, lim_4, lim_5, lim_9, if_true, rbind_ok, rbind_ex, out_ok, out_ex, then_nx, then_rt, then_ex, of_some, frz_val, frz_own, cr_nx, cr_rt, cr_ex, get_zero, get_succ, Env.put, Option.map_some, Option.map_none, Option.bind_some, startE, List.map_cons, List.map_nil, List.length_cons, List.length_nil, List.cons_append, List.nil_append, List.replicate_succ, List.replicate_zero, List.set_cons_zero, List.set_cons_succ, Nat.reduceAdd, Nat.reduceSub, Nat.zero_add, hq, hq0, and_self, p9, he, hlt]
theorem loop_ll (n : Nat) (S K : Option Cell) {v : Int} : ∀ (m i : Nat) {acc : List D} {x4 x5 : Option Cell}, i + m ≤ 5 → acc.length + m ≤ 900 → (∀ d ∈ acc, d ∈ W9) →
    ∃ acc' y4, acc'.length ≤ acc.length + m ∧ (∀ d ∈ acc', d ∈ W9) ∧ forL (.nm 4) (fun ρ => xss (G n) md.T.xi md.sb bodyLL ρ) ((List.range' i m).map fun k => .int (0 + (k : Nat))) [S, K, some (.val (.int v)), some (.own acc), x4, x5] = .nx [S, K, some (.val (.int v)), some (.own acc'), y4, x5]
  | 0, i, acc, x4, x5, _, _, hw => ⟨acc, x4, by simp, hw, rfl⟩
  | m + 1, i, acc, x4, x5, hi, ha, hw => by
    obtain ⟨d, hd, st⟩ := step_ll n S K (v := v) (j := i) (by omega) (acc := acc) (x5 := x5) (by omega)
    rw [List.range'_succ, List.map_cons]
    unfold forL
    have ep : Tg.put (.nm 4) (.int (0 + (i : Nat))) [S, K, some (.val (.int v)), some (.own acc), x4, x5] = some [S, K, some (.val (.int v)), some (.own acc), some (.val (.int (0 + (i : Nat)))), x5] := rfl
    simp only [ep]
    rw [st, then_nx]
    obtain ⟨acc', y4, h1, h2, h3⟩ := loop_ll n S K (v := v) m (i + 1) (acc := acc ++ [d]) (x4 := some (.val (.int (0 + (i : Nat))))) (x5 := x5) (by omega) (by simp; omega) (fun e he => by
      rcases List.mem_append.mp he with he | he
      · exact hw e he
      · rw [List.mem_singleton.mp he]; exact hd)
    exact ⟨acc', y4, by simp at h1; omega, h2, h3⟩
theorem W9_str {acc : List D} (h : ∀ d ∈ acc, d ∈ W9) : ∃ xs, allOf D.asStr acc = some xs ∧ xs.length = acc.length ∧ ∀ x ∈ xs, x.length ≤ 5 ∧ 10 ∉ x := by
  induction acc with
  | nil => exact ⟨[], rfl, rfl, fun _ z => nomatch z⟩
  | cons d acc ih =>
    obtain ⟨xs, h1, h2, h3⟩ := ih fun e he => h e (List.mem_cons_of_mem _ he)
    have hd := h d List.mem_cons_self
    obtain ⟨s, rfl, hs⟩ : ∃ s, d = .str s ∧ s.length ≤ 5 ∧ 10 ∉ s := by
      simp only [W9, List.mem_cons, List.not_mem_nil, or_false] at hd
      rcases hd with rfl | rfl | rfl | rfl | rfl | rfl | rfl | rfl | rfl <;> exact ⟨_, rfl, by decide, by decide⟩
    refine ⟨s :: xs, ?_, by simp [h2], fun x hx => ?_⟩
    · unfold allOf
      rw [h1]
      rfl
    · rcases List.mem_cons.mp hx with e | hx
      · rw [e]; exact hs
      · exact h3 x hx
theorem sum_len {xs : List (List Nat)} (h : ∀ x ∈ xs, x.length ≤ 5) : (xs.map List.length).sum ≤ 5 * xs.length := by
  induction xs with
  | nil => simp
  | cons x xs ih =>
    have := h x List.mem_cons_self
    have := ih fun y hy => h y (List.mem_cons_of_mem _ hy)
    simp
    omega
/-- short, without a line feed -/
def gd (k : Nat) (t : List Nat) : Prop := t.length ≤ k ∧ 10 ∉ t
theorem gd.app {a b : List Nat} {j k : Nat} (h1 : gd j a) (h2 : gd k b) : gd (j + k) (a ++ b) := ⟨by have := h1.1; have := h2.1; simp; omega, by simp [h1.2, h2.2]⟩
theorem gd_all {l : List D} {k : Nat} (h : ∀ d ∈ l, ∃ s, d = .str s ∧ gd k s) {d : D} (hd : d ∈ l) : ∃ s, d = .str s ∧ gd k s := h d hd
theorem pick {l : List D} {k : Nat} (h : ∀ d ∈ l, ∃ s, d = .str s ∧ gd k s) {x m : Int} (hm : m = l.length) (h0 : 0 < m) : ∃ s, gd k s ∧ L2.atI l (x % m) = some (.str s) := by
  obtain ⟨d, hd, he⟩ := at_mod (l := l) (x := x) hm h0
  obtain ⟨s, rfl, hs⟩ := h d hd
  exact ⟨s, hs, he⟩
theorem join_gd {sep : List Nat} {ys : List (List Nat)} {acc : List D} (h : allOf D.asStr acc = some ys) (hs : gd 2 sep) (hl : ys.length ≤ 5) (hy : ∀ x ∈ ys, x.length ≤ 5 ∧ 10 ∉ x) : gd 35 (TL.joinL sep ys) ∧ Mt.run .join (.str sep) [.lst acc] = some (.val (.str (TL.joinL sep ys))) := by
  have h1 := joinL_len sep ys
  have h2 := sum_len fun x hx => (hy x hx).1
  have h3 : ys.length * sep.length ≤ 5 * 2 := Nat.mul_le_mul hl hs.1
  refine ⟨⟨by omega, fun h10 => ?_⟩, ?_⟩
  · rcases joinL_mem sep ys 10 h10 with z | ⟨x, hx, z⟩
    · exact hs.2 z
    · exact (hy x hx).2 z
  · show (match allOf D.asStr acc with
      | some xs => if (xs.map List.length).sum + xs.length * sep.length ≤ LIM then some (Cell.val (.str (TL.joinL sep xs))) else none
      | none => none) = _
    rw [h]
    exact if_pos (by simp only [LIM]; omega)
theorem c_line (n : Nat) (ns : List Int) (hl : ns.length ≤ 63) (k : Int) (h0 : 0 ≤ k) (h1 : k ≤ 1000) : ∃ t, gd 200 t ∧ G (n + 3) "_law_line" [.scr ns, .int k] = .ok (.val (.str t)) := by
  rw [G, Lv_eq (b := f__law_line) (by kernel_rfl) rfl]
  obtain ⟨v, hv⟩ := c_number n ns hl k h0 h1
  have hv : Lv md.T md.sb md.F (n + 2) "_law_number" [.scr ns, .int k] = _ := hv
  have p6 : (0 : Int) < 6 := by omega
  have b6 : 0 ≤ v % 6 ∧ v % 6 < 6 := ⟨Int.emod_nonneg _ (by omega), Int.emod_lt_of_pos _ p6⟩
  obtain ⟨acc, y4, hacc, hw, lp⟩ := loop_ll (n + 2) (some (.val (.scr ns))) (some (.val (.int k))) (v := v) (v % 6).toNat 0 (acc := []) (x4 := none) (x5 := none) (by omega) (by simp; omega) (fun _ z => nomatch z)
  obtain ⟨ys, hx1, hx2, hx3⟩ := W9_str hw
  have hx : xss (Lv md.T md.sb md.F (n + 2)) md.T.xi md.sb b__law_line [some (.val (.scr ns)), some (.val (.int k)), none, none, none, none] =
      (forL (.nm 4) (fun ρ => xss (G (n + 2)) md.T.xi md.sb bodyLL ρ) (rangeL 0 (v % 6).toNat) [some (.val (.scr ns)), some (.val (.int k)), some (.val (.int v)), some (.own []), none, none]).andThen fun ρ => xss (Lv md.T md.sb md.F (n + 2)) md.T.xi md.sb (match b__law_line with
        | .cons _ (.cons _ (.cons _ r)) => r
        | _ => .nil) ρ := by
    simp only [b__law_line, bodyLL, ev_cst, ev_var, ev_take, ev_fz, ev_glb, ev_tup, ev_lst, ev_bin, ev_neg, ev_not, ev_and, ev_or, ev_ite, ev_cmp, ev_cmp2, ev_idx, ev_slc, ev_call, ev_callv, ev_bi, ev_biP, ev_mt, ev_mtP, ev_isi, evs_nil, evs_cons, evo_non, evo_som, evi_of, evi_rg1, evi_rg2, evi_enum, evi_zip, xs_pass, xs_asg, xs_own, xs_asgT, xs_ite, xs_ret, xs_retN, xs_expr, xs_raise, xs_app, xs_tr, xss_nil, xss_cons, bi_len_s, bi_len_t, bi_len_l, bi_len_c, bi_abs_i, bi_int_i, bi_tup_t, bi_tup_l, bi_lst_t, bi_lst_l, bi_all_l, bi_any_l, op_add_i, op_sub_i, op_mul_i, op_div_i, op_mod_i, op_add_s, cm_lt_i, cm_le_i, cm_gt_i, cm_ge_i, ci_lt_i, ci_le_i, cm_eq, cm_ne, cm_in, cm_nin, cm_is, cm_isn, is_nn, is_bn, is_in, is_sn, is_tn, is_bb, tr_non, tr_bl, tr_int, tr_str, tr_tup, tr_lst, ty_s, ix_t, ix_l, ix_c, ix_s, it_t, it_l, it_s, it_c, put_nm, put_2, put_3, lim_0, lim_1, lim_2, lim_3, lim_4, lim_5, lim_9, if_true, rbind_ok, rbind_ex, out_ok, out_ex, then_nx, then_rt, then_ex, of_some, frz_val, frz_own, cr_nx, cr_rt, cr_ex, get_zero, get_succ, Env.put, Option.map_some, Option.map_none, Option.bind_some, startE, List.map_cons, List.map_nil, List.length_cons, List.length_nil, List.cons_append, List.nil_append, List.replicate_succ, List.replicate_zero, List.set_cons_zero, List.set_cons_succ, Nat.reduceAdd, Nat.reduceSub, Nat.zero_add, xs_loop, hv, p6, small62_of (i := v % 6) (by omega)]
  show ∃ t, gd 200 t ∧ (xss (Lv md.T md.sb md.F (n + 2)) md.T.xi md.sb b__law_line [some (.val (.scr ns)), some (.val (.int k)), none, none, none, none]).cr = .ok (.val (.str t))
  rw [hx]
  have er : rangeL 0 (v % 6).toNat = (List.range' 0 (v % 6).toNat).map fun k => .int (0 + (k : Nat)) := by
    unfold rangeL
    rw [List.range_eq_range']
  rw [er, lp, then_nx]
  obtain ⟨a0, ga0, e0⟩ := pick (l := [.str [], .str [32], .str [32, 32]]) (k := 2) (x := v / 11) (m := 3) (by intro d hd; simp only [List.mem_cons, List.not_mem_nil, or_false] at hd; rcases hd with rfl | rfl | rfl <;> exact ⟨_, rfl, by decide, by decide⟩) rfl (by omega)
  obtain ⟨a1, ga1, e1⟩ := pick (l := [.str [32], .str [32, 32]]) (k := 2) (x := v / 13) (m := 2) (by intro d hd; simp only [List.mem_cons, List.not_mem_nil, or_false] at hd; rcases hd with rfl | rfl <;> exact ⟨_, rfl, by decide, by decide⟩) rfl (by omega)
  obtain ⟨a2, ga2, e2⟩ := pick (l := [.str [57], .str [65], .str [45], .str [95]]) (k := 1) (x := v / 19) (m := 4) (by intro d hd; simp only [List.mem_cons, List.not_mem_nil, or_false] at hd; rcases hd with rfl | rfl | rfl | rfl <;> exact ⟨_, rfl, by decide, by decide⟩) rfl (by omega)
  obtain ⟨a3, ga3, e3⟩ := pick (l := [.str [32], .str []]) (k := 1) (x := v / 29) (m := 2) (by intro d hd; simp only [List.mem_cons, List.not_mem_nil, or_false] at hd; rcases hd with rfl | rfl <;> exact ⟨_, rfl, by decide, by decide⟩) rfl (by omega)
  obtain ⟨a4, ga4, e4⟩ := pick (l := [.str [], .str [32, 120, 57], .str [35, 32, 40, 32, 65], .str [32, 97, 116]]) (k := 5) (x := v / 31) (m := 4) (by intro d hd; simp only [List.mem_cons, List.not_mem_nil, or_false] at hd; rcases hd with rfl | rfl | rfl | rfl <;> exact ⟨_, rfl, by decide, by decide⟩) rfl (by omega)
  obtain ⟨gj, hj⟩ := join_gd hx1 ga1 (by simp at hacc; omega) hx3
  have q11 : (0 : Int) < 11 ∧ (11 : Int) < 1073741824 := by omega
  have q13 : (0 : Int) < 13 ∧ (13 : Int) < 1073741824 := by omega
  have q17 : (0 : Int) < 17 ∧ (17 : Int) < 1073741824 := by omega
  have q19 : (0 : Int) < 19 ∧ (19 : Int) < 1073741824 := by omega
  have q23 : (0 : Int) < 23 ∧ (23 : Int) < 1073741824 := by omega
  have q29 : (0 : Int) < 29 ∧ (29 : Int) < 1073741824 := by omega
  have q31 : (0 : Int) < 31 ∧ (31 : Int) < 1073741824 := by omega
  have p2 : (0 : Int) < 2 := by omega
  have p3 : (0 : Int) < 3 := by omega
  have p4 : (0 : Int) < 4 := by omega
  have p9 : (0 : Int) < 9 := by omega
  have g1 := ga0.app gj
  have g2 := g1.app ga2
  have s35 : gd 1 [35] := ⟨by decide, by decide⟩
  have l1 : a0.length + (TL.joinL a1 ys).length ≤ LIM := by have := g1.1; simp at this; simp only [LIM]; omega
  have l2 : (a0 ++ TL.joinL a1 ys).length + a2.length ≤ LIM := by have := g2.1; simp at this ⊢; simp only [LIM]; omega
  have l3 : a3.length + [35].length ≤ LIM := by have := ga3.1; simp [LIM]; omega
  have key : ∀ t1 : List Nat, gd 38 t1 → t1.length + a3.length ≤ LIM ∧ (t1 ++ a3).length + 1 ≤ LIM ∧ (t1 ++ a3 ++ [35]).length + a4.length ≤ LIM ∧ gd 200 (t1 ++ a3 ++ [35] ++ a4) := fun t1 h => by
    have r := ((h.app ga3).app s35).app ga4
    have r1 := r.1
    simp only [List.length_append, List.length_cons, List.length_nil] at r1 ⊢
    refine ⟨by simp only [LIM]; omega, by simp only [LIM]; omega, by simp only [LIM]; omega, ⟨?_, r.2⟩⟩
    simp only [List.length_append, List.length_cons, List.length_nil]
    omega
  simp only [b__law_line, ev_cst, ev_var, ev_take, ev_fz, ev_glb, ev_tup, ev_lst, ev_bin, ev_neg, ev_not, ev_and, ev_or, ev_ite, ev_cmp, ev_cmp2, ev_idx, ev_slc, ev_call, ev_callv, ev_bi, ev_biP, ev_mt, ev_mtP, ev_isi, evs_nil, evs_cons, evo_non, evo_som, evi_of, evi_rg1, evi_rg2, evi_enum, evi_zip, xs_pass, xs_asg, xs_own, xs_asgT, xs_ite, xs_ret, xs_retN, xs_expr, xs_raise, xs_app, xs_tr, xss_nil, xss_cons, bi_len_s, bi_len_t, bi_len_l, bi_len_c, bi_abs_i, bi_int_i, bi_tup_t, bi_tup_l, bi_lst_t, bi_lst_l, bi_all_l, bi_any_l, op_add_i, op_sub_i, op_mul_i, op_div_i, op_mod_i, op_add_s, cm_lt_i, cm_le_i, cm_gt_i, cm_ge_i, ci_lt_i, ci_le_i, cm_eq, cm_ne, cm_in, cm_nin, cm_is, cm_isn, is_nn, is_bn, is_in, is_sn, is_tn, is_bb, tr_non, tr_bl, tr_int, tr_str, tr_tup, tr_lst, ty_s, ix_t, ix_l, ix_c, ix_s, it_t, it_l, it_s, it_c, put_nm, put_2, put_3, lim_0, lim_1, lim_2, lim_3, lim_4, lim_5, lim_9, if_true, rbind_ok, rbind_ex, out_ok, out_ex, then_nx, then_rt, then_ex, of_some, frz_val, frz_own, cr_nx, cr_rt, cr_ex, get_zero, get_succ, Env.put, Option.map_some, Option.map_none, Option.bind_some, startE, List.map_cons, List.map_nil, List.length_cons, List.length_nil, List.cons_append, List.nil_append, List.replicate_succ, List.replicate_zero, List.set_cons_zero, List.set_cons_succ, Nat.reduceAdd, Nat.reduceSub, Nat.zero_add, q11, q13, q17, q19, q23, q29, q31, and_self, p2, p3, p4, p9, e0, e1, e2, e3, e4, hj, l1, D.flat, Bool.and_self]
  cases c1 : D.eqv (.int (v / 17 % 9)) (.int 0) with
  | true =>
    have k2 := key _ ⟨Nat.le_trans g2.1 (by omega), g2.2⟩
    simp only [ev_cst, ev_var, ev_take, ev_fz, ev_glb, ev_tup, ev_lst, ev_bin, ev_neg, ev_not, ev_and, ev_or, ev_ite, ev_cmp, ev_cmp2, ev_idx, ev_slc, ev_call, ev_callv, ev_bi, ev_biP, ev_mt, ev_mtP, ev_isi, evs_nil, evs_cons, evo_non, evo_som, evi_of, evi_rg1, evi_rg2, evi_enum, evi_zip, xs_pass, xs_asg, xs_own, xs_asgT, xs_ite, xs_ret, xs_retN, xs_expr, xs_raise, xs_app, xs_tr, xss_nil, xss_cons, bi_len_s, bi_len_t, bi_len_l, bi_len_c, bi_abs_i, bi_int_i, bi_tup_t, bi_tup_l, bi_lst_t, bi_lst_l, bi_all_l, bi_any_l, op_add_i, op_sub_i, op_mul_i, op_div_i, op_mod_i, op_add_s, cm_lt_i, cm_le_i, cm_gt_i, cm_ge_i, ci_lt_i, ci_le_i, cm_eq, cm_ne, cm_in, cm_nin, cm_is, cm_isn, is_nn, is_bn, is_in, is_sn, is_tn, is_bb, tr_non, tr_bl, tr_int, tr_str, tr_tup, tr_lst, ty_s, ix_t, ix_l, ix_c, ix_s, it_t, it_l, it_s, it_c, put_nm, put_2, put_3, lim_0, lim_1, lim_2, lim_3, lim_4, lim_5, lim_9, if_true, rbind_ok, rbind_ex, out_ok, out_ex, then_nx, then_rt, then_ex, of_some, frz_val, frz_own, cr_nx, cr_rt, cr_ex, get_zero, get_succ, Env.put, Option.map_some, Option.map_none, Option.bind_some, startE, List.map_cons, List.map_nil, List.length_cons, List.length_nil, List.cons_append, List.nil_append, List.replicate_succ, List.replicate_zero, List.set_cons_zero, List.set_cons_succ, Nat.reduceAdd, Nat.reduceSub, Nat.zero_add, q19, and_self, p4, e2, l2, q23, p3, D.flat, Bool.and_self]
    cases c2 : D.eqv (.int (v / 23 % 3)) (.int 0) with
    | true =>
      simp only [ev_cst, ev_var, ev_take, ev_fz, ev_glb, ev_tup, ev_lst, ev_bin, ev_neg, ev_not, ev_and, ev_or, ev_ite, ev_cmp, ev_cmp2, ev_idx, ev_slc, ev_call, ev_callv, ev_bi, ev_biP, ev_mt, ev_mtP, ev_isi, evs_nil, evs_cons, evo_non, evo_som, evi_of, evi_rg1, evi_rg2, evi_enum, evi_zip, xs_pass, xs_asg, xs_own, xs_asgT, xs_ite, xs_ret, xs_retN, xs_expr, xs_raise, xs_app, xs_tr, xss_nil, xss_cons, bi_len_s, bi_len_t, bi_len_l, bi_len_c, bi_abs_i, bi_int_i, bi_tup_t, bi_tup_l, bi_lst_t, bi_lst_l, bi_all_l, bi_any_l, op_add_i, op_sub_i, op_mul_i, op_div_i, op_mod_i, op_add_s, cm_lt_i, cm_le_i, cm_gt_i, cm_ge_i, ci_lt_i, ci_le_i, cm_eq, cm_ne, cm_in, cm_nin, cm_is, cm_isn, is_nn, is_bn, is_in, is_sn, is_tn, is_bb, tr_non, tr_bl, tr_int, tr_str, tr_tup, tr_lst, ty_s, ix_t, ix_l, ix_c, ix_s, it_t, it_l, it_s, it_c, put_nm, put_2, put_3, lim_0, lim_1, lim_2, lim_3, lim_4, lim_5, lim_9, if_true, rbind_ok, rbind_ex, out_ok, out_ex, then_nx, then_rt, then_ex, of_some, frz_val, frz_own, cr_nx, cr_rt, cr_ex, get_zero, get_succ, Env.put, Option.map_some, Option.map_none, Option.bind_some, startE, List.map_cons, List.map_nil, List.length_cons, List.length_nil, List.cons_append, List.nil_append, List.replicate_succ, List.replicate_zero, List.set_cons_zero, List.set_cons_succ, Nat.reduceAdd, Nat.reduceSub, Nat.zero_add, q29, q31, and_self, p2, p4, e3, e4, k2.1, k2.2.1, k2.2.2.1]
      exact ⟨_, k2.2.2.2, rfl⟩
    | false =>
      simp only [ev_cst, ev_var, ev_take, ev_fz, ev_glb, ev_tup, ev_lst, ev_bin, ev_neg, ev_not, ev_and, ev_or, ev_ite, ev_cmp, ev_cmp2, ev_idx, ev_slc, ev_call, ev_callv, ev_bi, ev_biP, ev_mt, ev_mtP, ev_isi, evs_nil, evs_cons, evo_non, evo_som, evi_of, evi_rg1, evi_rg2, evi_enum, evi_zip, xs_pass, xs_asg, xs_own, xs_asgT, xs_ite, xs_ret, xs_retN, xs_expr, xs_raise, xs_app, xs_tr, xss_nil, xss_cons, bi_len_s, bi_len_t, bi_len_l, bi_len_c, bi_abs_i, bi_int_i, bi_tup_t, bi_tup_l, bi_lst_t, bi_lst_l, bi_all_l, bi_any_l, op_add_i, op_sub_i, op_mul_i, op_div_i, op_mod_i, op_add_s, cm_lt_i, cm_le_i, cm_gt_i, cm_ge_i, ci_lt_i, ci_le_i, cm_eq, cm_ne, cm_in, cm_nin, cm_is, cm_isn, is_nn, is_bn, is_in, is_sn, is_tn, is_bb, tr_non, tr_bl, tr_int, tr_str, tr_tup, tr_lst, ty_s, ix_t, ix_l, ix_c, ix_s, it_t, it_l, it_s, it_c, put_nm, put_2, put_3, lim_0, lim_1, lim_2, lim_3, lim_4, lim_5, lim_9, if_true, rbind_ok, rbind_ex, out_ok, out_ex, then_nx, then_rt, then_ex, of_some, frz_val, frz_own, cr_nx, cr_rt, cr_ex, get_zero, get_succ, Env.put, Option.map_some, Option.map_none, Option.bind_some, startE, List.map_cons, List.map_nil, List.length_cons, List.length_nil, List.cons_append, List.nil_append, List.replicate_succ, List.replicate_zero, List.set_cons_zero, List.set_cons_succ, Nat.reduceAdd, Nat.reduceSub, Nat.zero_add]
      exact ⟨_, ⟨Nat.le_trans g2.1 (by omega), g2.2⟩, rfl⟩
  | false =>
    have k2 := key _ ⟨Nat.le_trans g1.1 (by omega), g1.2⟩
    simp only [ev_cst, ev_var, ev_take, ev_fz, ev_glb, ev_tup, ev_lst, ev_bin, ev_neg, ev_not, ev_and, ev_or, ev_ite, ev_cmp, ev_cmp2, ev_idx, ev_slc, ev_call, ev_callv, ev_bi, ev_biP, ev_mt, ev_mtP, ev_isi, evs_nil, evs_cons, evo_non, evo_som, evi_of, evi_rg1, evi_rg2, evi_enum, evi_zip, xs_pass, xs_asg, xs_own, xs_asgT, xs_ite, xs_ret, xs_retN, xs_expr, xs_raise, xs_app, xs_tr, xss_nil, xss_cons, bi_len_s, bi_len_t, bi_len_l, bi_len_c, bi_abs_i, bi_int_i, bi_tup_t, bi_tup_l, bi_lst_t, bi_lst_l, bi_all_l, bi_any_l, op_add_i, op_sub_i, op_mul_i, op_div_i, op_mod_i, op_add_s, cm_lt_i, cm_le_i, cm_gt_i, cm_ge_i, ci_lt_i, ci_le_i, cm_eq, cm_ne, cm_in, cm_nin, cm_is, cm_isn, is_nn, is_bn, is_in, is_sn, is_tn, is_bb, tr_non, tr_bl, tr_int, tr_str, tr_tup, tr_lst, ty_s, ix_t, ix_l, ix_c, ix_s, it_t, it_l, it_s, it_c, put_nm, put_2, put_3, lim_0, lim_1, lim_2, lim_3, lim_4, lim_5, lim_9, if_true, rbind_ok, rbind_ex, out_ok, out_ex, then_nx, then_rt, then_ex, of_some, frz_val, frz_own, cr_nx, cr_rt, cr_ex, get_zero, get_succ, Env.put, Option.map_some, Option.map_none, Option.bind_some, startE, List.map_cons, List.map_nil, List.length_cons, List.length_nil, List.cons_append, List.nil_append, List.replicate_succ, List.replicate_zero, List.set_cons_zero, List.set_cons_succ, Nat.reduceAdd, Nat.reduceSub, Nat.zero_add, q23, p3, and_self, D.flat, Bool.and_self]
    cases c2 : D.eqv (.int (v / 23 % 3)) (.int 0) with
    | true =>
      simp only [ev_cst, ev_var, ev_take, ev_fz, ev_glb, ev_tup, ev_lst, ev_bin, ev_neg, ev_not, ev_and, ev_or, ev_ite, ev_cmp, ev_cmp2, ev_idx, ev_slc, ev_call, ev_callv, ev_bi, ev_biP, ev_mt, ev_mtP, ev_isi, evs_nil, evs_cons, evo_non, evo_som, evi_of, evi_rg1, evi_rg2, evi_enum, evi_zip, xs_pass, xs_asg, xs_own, xs_asgT, xs_ite, xs_ret, xs_retN, xs_expr, xs_raise, xs_app, xs_tr, xss_nil, xss_cons, bi_len_s, bi_len_t, bi_len_l, bi_len_c, bi_abs_i, bi_int_i, bi_tup_t, bi_tup_l, bi_lst_t, bi_lst_l, bi_all_l, bi_any_l, op_add_i, op_sub_i, op_mul_i, op_div_i, op_mod_i, op_add_s, cm_lt_i, cm_le_i, cm_gt_i, cm_ge_i, ci_lt_i, ci_le_i, cm_eq, cm_ne, cm_in, cm_nin, cm_is, cm_isn, is_nn, is_bn, is_in, is_sn, is_tn, is_bb, tr_non, tr_bl, tr_int, tr_str, tr_tup, tr_lst, ty_s, ix_t, ix_l, ix_c, ix_s, it_t, it_l, it_s, it_c, put_nm, put_2, put_3, lim_0, lim_1, lim_2, lim_3, lim_4, lim_5, lim_9, if_true, rbind_ok, rbind_ex, out_ok, out_ex, then_nx, then_rt, then_ex, of_some, frz_val, frz_own, cr_nx, cr_rt, cr_ex, get_zero, get_succ, Env.put, Option.map_some, Option.map_none, Option.bind_some, startE, List.map_cons, List.map_nil, List.length_cons, List.length_nil, List.cons_append, List.nil_append, List.replicate_succ, List.replicate_zero, List.set_cons_zero, List.set_cons_succ, Nat.reduceAdd, Nat.reduceSub, Nat.zero_add, q29, q31, and_self, p2, p4, e3, e4, k2.1, k2.2.1, k2.2.2.1]
      exact ⟨_, k2.2.2.2, rfl⟩
    | false =>
      simp only [ev_cst, ev_var, ev_take, ev_fz, ev_glb, ev_tup, ev_lst, ev_bin, ev_neg, ev_not, ev_and, ev_or, ev_ite, ev_cmp, ev_cmp2, ev_idx, ev_slc, ev_call, ev_callv, ev_bi, ev_biP, ev_mt, ev_mtP, ev_isi, evs_nil, evs_cons, evo_non, evo_som, evi_of, evi_rg1, evi_rg2, evi_enum, evi_zip, xs_pass, xs_asg, xs_own, xs_asgT, xs_ite, xs_ret, xs_retN, xs_expr, xs_raise, xs_app, xs_tr, xss_nil, xss_cons, bi_len_s, bi_len_t, bi_len_l, bi_len_c, bi_abs_i, bi_int_i, bi_tup_t, bi_tup_l, bi_lst_t, bi_lst_l, bi_all_l, bi_any_l, op_add_i, op_sub_i, op_mul_i, op_div_i, op_mod_i, op_add_s, cm_lt_i, cm_le_i, cm_gt_i, cm_ge_i, ci_lt_i, ci_le_i, cm_eq, cm_ne, cm_in, cm_nin, cm_is, cm_isn, is_nn, is_bn, is_in, is_sn, is_tn, is_bb, tr_non, tr_bl, tr_int, tr_str, tr_tup, tr_lst, ty_s, ix_t, ix_l, ix_c, ix_s, it_t, it_l, it_s, it_c, put_nm, put_2, put_3, lim_0, lim_1, lim_2, lim_3, lim_4, lim_5, lim_9, if_true, rbind_ok, rbind_ex, out_ok, out_ex, then_nx, then_rt, then_ex, of_some, frz_val, frz_own, cr_nx, cr_rt, cr_ex, get_zero, get_succ, Env.put, Option.map_some, Option.map_none, Option.bind_some, startE, List.map_cons, List.map_nil, List.length_cons, List.length_nil, List.cons_append, List.nil_append, List.replicate_succ, List.replicate_zero, List.set_cons_zero, List.set_cons_succ, Nat.reduceAdd, Nat.reduceSub, Nat.zero_add]
      exact ⟨_, ⟨Nat.le_trans g1.1 (by omega), g1.2⟩, rfl⟩
end K79

set_option Elab.async false
set_option linter.all false
set_option maxRecDepth 100000
namespace K79
open Bw PySem PySem.Spec PyProof.Rows L2
/-! ### blanks at the end -/
theorem sp_okc {c : Nat} (h : okc c = true) : Unicode.isSpace c = (c == 32) := by
  have key : ∀ d ∈ [97, 98, 99, 100, 101, 102, 103, 104, 105, 106, 107, 108, 109, 110, 111, 112, 113, 114, 115, 116, 117, 118, 119, 120, 121, 122, 32, 40, 41], Unicode.isSpace d = (d == 32) := by decide +kernel
  have hm : c ∈ [97, 98, 99, 100, 101, 102, 103, 104, 105, 106, 107, 108, 109, 110, 111, 112, 113, 114, 115, 116, 117, 118, 119, 120, 121, 122, 32, 40, 41] := by
    have := okc_in c
    rw [h, isin_str] at this
    exact of_decide_eq_true (Option.some.inj this)
  exact key c hm
theorem getD_sOf (p : List Nat) (k : Nat) (h : k < p.length) : (sOf p).cps.getD k 0 ∈ p := by
  have e : (sOf p).cps.getD k 0 = p[k] := by simp [sOf, Array.getD, h]
  rw [e]
  exact List.getElem_mem h
theorem slen (p : List Nat) : (sOf p).length = p.length := by simp [sOf, Str.length]
theorem rstrip_both (p : List Nat) (h : ∀ c ∈ p, Unicode.isSpace c = (c == 32)) : Txt.rstripChars (sOf p) (sOf [32]) = Txt.rstrip (sOf p) ∧ ∃ hi, hi ≤ p.length ∧ TL.tl (Txt.rstrip (sOf p)) = p.take hi ∧ ∀ c ∈ p.drop hi, c = 32 := by
  obtain ⟨_, a0, a1, a2⟩ := hi_facts Unicode.isSpace (sOf p) 0 (Nat.zero_le _)
  obtain ⟨_, b0, b1, b2⟩ := hi_facts (sOf [32]).cps.contains (sOf p) 0 (Nat.zero_le _)
  generalize ha : PySem.stripHi Unicode.isSpace true (sOf p) 0 = i at a0 a1 a2
  generalize hb : PySem.stripHi (sOf [32]).cps.contains true (sOf p) 0 = j at b0 b1 b2
  rw [slen] at a0 a1 b0 b1
  have cont : ∀ c, (sOf [32]).cps.contains c = (c == 32) := fun c => by simp [sOf]; rfl
  have same : ∀ k, k < p.length → Unicode.isSpace ((sOf p).cps.getD k 0) = (sOf [32]).cps.contains ((sOf p).cps.getD k 0) := fun k hk => by rw [h _ (getD_sOf p k hk), cont]
  have eij : i = j := by
    rcases Nat.lt_trichotomy i j with q | q | q
    · rcases b2 with z | z
      · omega
      · have := a1 (j - 1) (by omega) (by omega)
        rw [same _ (by omega), z] at this
        cases this
    · exact q
    · rcases a2 with z | z
      · omega
      · have := b1 (i - 1) (by omega) (by omega)
        rw [← same _ (by omega), z] at this
        cases this
  have ra : Txt.rstrip (sOf p) = Builtin.Str.strSub (sOf p) 0 i := by
    unfold Txt.rstrip
    rw [stripBy_eq]
    show Builtin.Str.strSub (sOf p) 0 (PySem.stripHi Unicode.isSpace true (sOf p) 0) = _
    rw [ha]
  have rb : Txt.rstripChars (sOf p) (sOf [32]) = Builtin.Str.strSub (sOf p) 0 j := by
    unfold Txt.rstripChars
    rw [stripBy_eq]
    show Builtin.Str.strSub (sOf p) 0 (PySem.stripHi (sOf [32]).cps.contains true (sOf p) 0) = _
    rw [hb]
  refine ⟨by rw [ra, rb, eij], i, a0, ?_, fun c hc => ?_⟩
  · rw [ra, TL.tl_strSub]
    simp [TL.tl, sOf]
  · obtain ⟨k, hk, rfl⟩ := List.getElem_of_mem hc
    rw [List.length_drop] at hk
    have z := a1 (i + k) (by omega) (by omega)
    have e : (sOf p).cps.getD (i + k) 0 = (p.drop i)[k] := by
      have : i + k < p.length := by omega
      simp [sOf, Array.getD, this]
    rw [h _ (getD_sOf p _ (by omega)), e] at z
    simpa using z
theorem repl1 (y : Nat) (z : List Nat) : ∀ a : List Nat, StrLaws.replL [y] z a = a.flatMap fun c => if c = y then z else [c]
  | [] => StrLaws.replL_nil
  | c :: a => by
    by_cases h : c = y
    · subst h
      rw [StrLaws.replL_hit (by simp) (by simp)]
      have := repl1 c z a
      simp [this]
    · rw [StrLaws.replL_miss (by simpa using h)]
      have := repl1 y z a
      simp [this, h]
theorem rp_app (a b : List Nat) : rp (a ++ b) = rp a ++ rp b := by
  unfold rp
  rw [repl1, repl1, repl1, repl1, repl1, repl1, List.flatMap_append, List.flatMap_append]
theorem rp_blank : ∀ b : List Nat, (∀ c ∈ b, c = 32) → rp b = b
  | [], _ => by unfold rp; rw [StrLaws.replL_nil, StrLaws.replL_nil]
  | c :: b, h => by
    have e : rp (c :: b) = rp [c] ++ rp b := rp_app [c] b
    have h1 : c = 32 := h c List.mem_cons_self
    subst h1
    rw [e, rp_blank b fun d hd => h d (List.mem_cons_of_mem _ hd)]
    have : rp [32] = [32] := by unfold rp; rw [repl1, repl1]; rfl
    rw [this]
    rfl
theorem fin_blank : ∀ (b : List Nat) (st : KWd.St), (∀ c ∈ b, c = 32) → KWd.fin (b.foldl KWd.step st) = KWd.fin st
  | [], st, _ => rfl
  | c :: b, st, h => by
    rw [List.foldl_cons, fin_blank b _ fun d hd => h d (List.mem_cons_of_mem _ hd)]
    have h1 : c = 32 := h c List.mem_cons_self
    subst h1
    have hs : Unicode.isSpace 32 = true := by decide +kernel
    unfold KWd.step
    rw [if_pos hs]
    by_cases hz : st.2.length = 0
    · rw [if_pos hz]
    · rw [if_neg hz]
      unfold KWd.fin
      rw [if_neg hz]
      rfl
theorem wds_blank (a b : List Nat) (h : ∀ c ∈ b, c = 32) : wds (a ++ b) = wds a := by
  unfold wds
  have e : Txt.words (sOf (rp (a ++ b))) = Txt.words (sOf (rp a)) := by
    rw [KWd.words_scan, KWd.words_scan, rp_app, rp_blank b h]
    unfold KWd.scan
    have e1 : (sOf (rp a ++ b)).cps.toList = (sOf (rp a)).cps.toList ++ b := by simp [sOf]
    rw [e1, List.foldl_append, fin_blank b _ h]
  rw [e]
/-! ### a cut line -/
theorem pl_none {a : List Nat} (h : 35 ∉ a) : pl a = a := while_none h
theorem cut_ok {l : List Nat} (h : (pl l).all okc = true) : 35 ∉ cutR l ∧ (pl (cutR l)).all okc = true ∧ wds (pl (cutR l)) = wds (pl l) ∧ (10 ∉ l → 10 ∉ cutR l) ∧ (35 ∈ l → TL.tl (Txt.rstripChars (sOf (pl l)) (sOf [32])) = cutR l) := by
  unfold cutR
  by_cases hm : 35 ∈ l
  · rw [if_pos hm]
    have hall : ∀ c ∈ pl l, okc c = true := List.all_eq_true.mp h
    obtain ⟨r1, hi, r2, r3, r4⟩ := rstrip_both (pl l) fun c hc => sp_okc (hall c hc)
    have h35 : 35 ∉ pl l := (cut35 l).2.2
    have n35 : 35 ∉ (pl l).take hi := fun z => h35 (List.mem_of_mem_take z)
    rw [r3]
    refine ⟨n35, ?_, ?_, fun h10 z => ?_, fun _ => by rw [r1, r3]⟩
    · rw [pl_none n35, List.all_eq_true]
      exact fun c hc => hall c (List.mem_of_mem_take hc)
    · rw [pl_none n35]
      have := wds_blank ((pl l).take hi) ((pl l).drop hi) r4
      rw [List.take_append_drop] at this
      exact this.symm
    · have z2 : (10 : Nat) ∈ pl l := List.mem_of_mem_take z
      have := (cut35 l).1
      exact h10 (by rw [this]; exact List.mem_append_left _ z2)
  · rw [if_neg hm]
    exact ⟨hm, h, rfl, id, fun z => absurd z hm⟩
theorem flt_all : ∀ {ls : List (List Nat)} {k : Nat}, flt k ls = none → ∀ l ∈ ls, (pl l).all okc = true
  | [], _, _ => fun _ z => nomatch z
  | l :: ls, k, h => by
    unfold flt at h
    split at h
    · rename_i h1
      intro m hm
      rcases List.mem_cons.mp hm with e | hm
      · rw [e]; exact h1
      · exact flt_all h m hm
    · cases h
theorem flt_none : ∀ {ls : List (List Nat)} {k : Nat}, (∀ l ∈ ls, (pl l).all okc = true) → flt k ls = none
  | [], _, _ => rfl
  | l :: ls, k, h => by
    unfold flt
    rw [if_pos (h l List.mem_cons_self)]
    exact flt_none fun m hm => h m (List.mem_cons_of_mem _ hm)
theorem told_cut : ∀ {ls : List (List Nat)} {k : Nat}, (∀ l ∈ ls, (pl l).all okc = true) → told k (ls.map cutR) = told k ls
  | [], _, _ => rfl
  | l :: ls, k, h => by
    have c := cut_ok (h l List.mem_cons_self)
    rw [List.map_cons]
    unfold told
    rw [c.2.2.1, told_cut fun m hm => h m (List.mem_cons_of_mem _ hm)]
theorem noted_none : ∀ {ls : List (List Nat)} {k : Nat}, (∀ l ∈ ls, 35 ∉ l) → noted k ls = []
  | [], _, _ => rfl
  | l :: ls, k, h => by
    unfold noted
    rw [if_neg (h l List.mem_cons_self), noted_none fun m hm => h m (List.mem_cons_of_mem _ hm)]
    rfl
theorem okL_cut {ls : List (List Nat)} (h : okL ls) (ha : ∀ l ∈ ls, (pl l).all okc = true) : okL (ls.map cutR) := by
  refine ⟨by simpa using h.1, fun l hl => ?_⟩
  obtain ⟨m, hm, rfl⟩ := List.mem_map.mp hl
  exact ⟨(cut_ok (ha m hm)).2.2.2.1 (h.2 m hm).1, Nat.le_trans (cutR_len m) (h.2 m hm).2⟩
theorem slR_none {ls : List (List Nat)} (h : ∀ l ∈ ls, (pl l).all okc = true) : slR ls [] = none := by
  unfold slR
  rw [flt_none h]
  rfl
/-! ### _law_try -/
theorem sb_bad : md.sb "BadLine" "BadLine" = some true := by decide +kernel
def tnm (w : Nat) : Str := if w = 0 then "source_lines" else if w = 1 then "remarks_of" else "without_remarks"
def toldS : D := .str [116, 111, 108, 100]
def lineS : D := .str [108, 105, 110, 101]
theorem at_try {w : Nat} (h : w < 3) : L2.atI [D.fn "source_lines", .fn "remarks_of", .fn "without_remarks"] (w : Nat) = some (.fn (tnm w)) := by
  have : w = 0 ∨ w = 1 ∨ w = 2 := by omega
  rcases this with rfl | rfl | rfl <;> rfl
theorem c_try_ok (n w : Nat) (hw : w < 3) (d : D) (c : Cell) (h : G n (tnm w) [d] = .ok c) : G (n + 1) "_law_try" [.int (w : Nat), d] = .ok (.val (.tup [toldS, c.frz])) := by
  rw [G, Lv_eq (b := f__law_try) (by kernel_rfl) rfl]
  have h : Lv md.T md.sb md.F n (tnm w) [d] = .ok c := h
  simp only [f__law_try, b__law_try, ev_cst, ev_var, ev_take, ev_fz, ev_glb, ev_tup, ev_lst, ev_bin, ev_neg, ev_not, ev_and, ev_or, ev_ite, ev_cmp, ev_cmp2, ev_idx, ev_slc, ev_call, ev_callv, ev_bi, ev_biP, ev_mt, ev_mtP, ev_isi, evs_nil, evs_cons, evo_non, evo_som, evi_of, evi_rg1, evi_rg2, evi_enum, evi_zip, xs_pass, xs_asg, xs_own, xs_asgT, xs_ite, xs_ret, xs_retN, xs_expr, xs_raise, xs_app, xs_tr, xss_nil, xss_cons, bi_len_s, bi_len_t, bi_len_l, bi_len_c, bi_abs_i, bi_int_i, bi_tup_t, bi_tup_l, bi_lst_t, bi_lst_l, bi_all_l, bi_any_l, op_add_i, op_sub_i, op_mul_i, op_div_i, op_mod_i, op_add_s, cm_lt_i, cm_le_i, cm_gt_i, cm_ge_i, ci_lt_i, ci_le_i, cm_eq, cm_ne, cm_in, cm_nin, cm_is, cm_isn, is_nn, is_bn, is_in, is_sn, is_tn, is_bb, tr_non, tr_bl, tr_int, tr_str, tr_tup, tr_lst, ty_s, ix_t, ix_l, ix_c, ix_s, it_t, it_l, it_s, it_c, put_nm, put_2, put_3, lim_0, lim_1, lim_2, lim_3, lim_4, lim_5, lim_9, if_true, rbind_ok, rbind_ex, out_ok, out_ex, then_nx, then_rt, then_ex, of_some, frz_val, frz_own, cr_nx, cr_rt, cr_ex, get_zero, get_succ, Env.put, Option.map_some, Option.map_none, Option.bind_some, startE, List.map_cons, List.map_nil, List.length_cons, List.length_nil, List.cons_append, List.nil_append, List.replicate_succ, List.replicate_zero, List.set_cons_zero, List.set_cons_succ, Nat.reduceAdd, Nat.reduceSub, Nat.zero_add, at_try hw, h, toldS]
theorem c_try_ex (n w : Nat) (hw : w < 3) (d : D) (x : D) (h : G n (tnm w) [d] = .ex ⟨"BadLine", some ("line", x)⟩) : G (n + 1) "_law_try" [.int (w : Nat), d] = .ok (.val (.tup [lineS, x])) := by
  rw [G, Lv_eq (b := f__law_try) (by kernel_rfl) rfl]
  have h : Lv md.T md.sb md.F n (tnm w) [d] = _ := h
  simp only [f__law_try, b__law_try, ev_cst, ev_var, ev_take, ev_fz, ev_glb, ev_tup, ev_lst, ev_bin, ev_neg, ev_not, ev_and, ev_or, ev_ite, ev_cmp, ev_cmp2, ev_idx, ev_slc, ev_call, ev_callv, ev_bi, ev_biP, ev_mt, ev_mtP, ev_isi, evs_nil, evs_cons, evo_non, evo_som, evi_of, evi_rg1, evi_rg2, evi_enum, evi_zip, xs_pass, xs_asg, xs_own, xs_asgT, xs_ite, xs_ret, xs_retN, xs_expr, xs_raise, xs_app, xs_tr, xss_nil, xss_cons, bi_len_s, bi_len_t, bi_len_l, bi_len_c, bi_abs_i, bi_int_i, bi_tup_t, bi_tup_l, bi_lst_t, bi_lst_l, bi_all_l, bi_any_l, op_add_i, op_sub_i, op_mul_i, op_div_i, op_mod_i, op_add_s, cm_lt_i, cm_le_i, cm_gt_i, cm_ge_i, ci_lt_i, ci_le_i, cm_eq, cm_ne, cm_in, cm_nin, cm_is, cm_isn, is_nn, is_bn, is_in, is_sn, is_tn, is_bb, tr_non, tr_bl, tr_int, tr_str, tr_tup, tr_lst, ty_s, ix_t, ix_l, ix_c, ix_s, it_t, it_l, it_s, it_c, put_nm, put_2, put_3, lim_0, lim_1, lim_2, lim_3, lim_4, lim_5, lim_9, if_true, rbind_ok, rbind_ex, out_ok, out_ex, then_nx, then_rt, then_ex, of_some, frz_val, frz_own, cr_nx, cr_rt, cr_ex, get_zero, get_succ, Env.put, Option.map_some, Option.map_none, Option.bind_some, startE, List.map_cons, List.map_nil, List.length_cons, List.length_nil, List.cons_append, List.nil_append, List.replicate_succ, List.replicate_zero, List.set_cons_zero, List.set_cons_succ, Nat.reduceAdd, Nat.reduceSub, Nat.zero_add, at_try hw, h, lineS, hdsL, sb_bad]
  rfl
end K79

set_option Elab.async false
set_option linter.all false
set_option maxRecDepth 100000
namespace K79
open Bw PySem PySem.Spec PyProof.Rows L2
/-! ### equality of a value with itself -/
mutual
theorem eqv_self : ∀ {d : D} {n : Nat}, d.flat n = true → d.eqv d = true
  | .non, _, _ => rfl
  | .bl b, _, _ => by simp [D.eqv]
  | .int b, _, _ => by simp [D.eqv]
  | .str b, _, _ => by simp [D.eqv]
  | .tup ds, n, h => by
    cases n with
    | zero => simp [D.flat] at h
    | succ n => simp only [D.flat] at h; simp only [D.eqv]; exact eqvs_self h
  | .lst ds, n, h => by
    cases n with
    | zero => simp [D.flat] at h
    | succ n => simp only [D.flat] at h; simp only [D.eqv]; exact eqvs_self h
  | .scr _, n, h => by cases n <;> simp [D.flat] at h
  | .fn _, n, h => by cases n <;> simp [D.flat] at h
  | .ty _, n, h => by cases n <;> simp [D.flat] at h
theorem eqvs_self : ∀ {ds : List D} {n : Nat}, D.flats n ds = true → D.eqvs ds ds = true
  | [], _, _ => rfl
  | d :: ds, n, h => by
    simp only [D.flats, Bool.and_eq_true] at h
    simp only [D.eqvs, eqv_self h.1, eqvs_self h.2, Bool.and_self]
end
theorem flats_of {n : Nat} : ∀ {ds : List D}, (∀ d ∈ ds, d.flat n = true) → D.flats n ds = true
  | [], _ => rfl
  | d :: ds, h => by
    simp only [D.flats, h d List.mem_cons_self, flats_of fun e he => h e (List.mem_cons_of_mem _ he), Bool.and_self]
theorem flat_str (n : Nat) (s : List Nat) : D.flat n (.str s) = true := by cases n <;> rfl
theorem flat_int (n : Nat) (s : Int) : D.flat n (.int s) = true := by cases n <;> rfl
theorem flat_non (n : Nat) : D.flat n .non = true := by cases n <;> rfl
theorem wds_flat (n : Nat) (a : List Nat) : D.flats n (wds a) = true := flats_of fun d hd => by
  unfold wds at hd
  obtain ⟨x, _, rfl⟩ := List.mem_map.mp hd
  exact flat_str n _
theorem lw_flat (n : Nat) (a : List Nat) : D.flat (n + 1) (lw a) = true := by
  unfold lw
  split
  · simp only [D.flat, wds_flat]
  · exact flat_non _
theorem lr_flat (n : Nat) (a : List Nat) : D.flat n (lr a) = true := by
  unfold lr
  split
  · exact flat_str _ _
  · exact flat_non _
theorem told_flat (n : Nat) : ∀ (k : Nat) (ls : List (List Nat)), D.flats (n + 2) (told k ls) = true
  | _, [] => rfl
  | k, l :: ls => by
    unfold told
    have := told_flat n (k + 1) ls
    split
    · exact this
    · simp only [List.cons_append, List.nil_append, D.flats, D.flat, flat_int, wds_flat, this, Bool.and_self]
theorem noted_flat (n : Nat) : ∀ (k : Nat) (ls : List (List Nat)), D.flats (n + 1) (noted k ls) = true
  | _, [] => rfl
  | k, l :: ls => by
    unfold noted
    have := noted_flat n (k + 1) ls
    split
    · simp only [List.cons_append, List.nil_append, D.flats, D.flat, flat_int, lr_flat, this, Bool.and_self]
    · exact this
theorem ne_self {d : D} (h : d.flat 40 = true) : Cm.run .ne d d = some false := by
  rw [cm_ne, h, eqv_self h]
  rfl
theorem eq_self' {d : D} (h : d.flat 40 = true) : Cm.run .eq d d = some true := by
  rw [cm_eq, h, eqv_self h]
  rfl
theorem toldS_flat {ds : List D} (h : D.flats 38 ds = true) : D.flat 40 (.tup [toldS, .tup ds]) = true := by
  simp only [toldS, D.flat, D.flats, h, flat_str, Bool.and_self]
theorem c_words_nl (n : Nat) (a : List Nat) (h : 10 ∈ a) : G (n + 1) "line_words" [.str a] = .ok (.val .non) := by
  rw [G, Lv_eq (b := f_line_words) (by kernel_rfl) rfl]
  have h1 : D.isin (.str [10]) (.str a) = some true := by rw [isin_str]; simp [h]
  simp only [f_line_words, b_line_words, ev_cst, ev_var, ev_take, ev_fz, ev_glb, ev_tup, ev_lst, ev_bin, ev_neg, ev_not, ev_and, ev_or, ev_ite, ev_cmp, ev_cmp2, ev_idx, ev_slc, ev_call, ev_callv, ev_bi, ev_biP, ev_mt, ev_mtP, ev_isi, evs_nil, evs_cons, evo_non, evo_som, evi_of, evi_rg1, evi_rg2, evi_enum, evi_zip, xs_pass, xs_asg, xs_own, xs_asgT, xs_ite, xs_ret, xs_retN, xs_expr, xs_raise, xs_app, xs_tr, xss_nil, xss_cons, bi_len_s, bi_len_t, bi_len_l, bi_len_c, bi_abs_i, bi_int_i, bi_tup_t, bi_tup_l, bi_lst_t, bi_lst_l, bi_all_l, bi_any_l, op_add_i, op_sub_i, op_mul_i, op_div_i, op_mod_i, op_add_s, cm_lt_i, cm_le_i, cm_gt_i, cm_ge_i, ci_lt_i, ci_le_i, cm_eq, cm_ne, cm_in, cm_nin, cm_is, cm_isn, is_nn, is_bn, is_in, is_sn, is_tn, is_bb, tr_non, tr_bl, tr_int, tr_str, tr_tup, tr_lst, ty_s, ix_t, ix_l, ix_c, ix_s, it_t, it_l, it_s, it_c, put_nm, put_2, put_3, lim_0, lim_1, lim_2, lim_3, lim_4, lim_5, lim_9, if_true, rbind_ok, rbind_ex, out_ok, out_ex, then_nx, then_rt, then_ex, of_some, frz_val, frz_own, cr_nx, cr_rt, cr_ex, get_zero, get_succ, Env.put, Option.map_some, Option.map_none, Option.bind_some, startE, List.map_cons, List.map_nil, List.length_cons, List.length_nil, List.cons_append, List.nil_append, List.replicate_succ, List.replicate_zero, List.set_cons_zero, List.set_cons_succ, Nat.reduceAdd, Nat.reduceSub, Nat.zero_add, h1, str_isi, Bool.not_true]
theorem c_remark_nl (n : Nat) (a : List Nat) (h : 10 ∈ a) : G (n + 1) "line_remark" [.str a] = .ok (.val .non) := by
  rw [G, Lv_eq (b := f_line_remark) (by kernel_rfl) rfl]
  have h1 : D.isin (.str [10]) (.str a) = some true := by rw [isin_str]; simp [h]
  simp only [f_line_remark, b_line_remark, ev_cst, ev_var, ev_take, ev_fz, ev_glb, ev_tup, ev_lst, ev_bin, ev_neg, ev_not, ev_and, ev_or, ev_ite, ev_cmp, ev_cmp2, ev_idx, ev_slc, ev_call, ev_callv, ev_bi, ev_biP, ev_mt, ev_mtP, ev_isi, evs_nil, evs_cons, evo_non, evo_som, evi_of, evi_rg1, evi_rg2, evi_enum, evi_zip, xs_pass, xs_asg, xs_own, xs_asgT, xs_ite, xs_ret, xs_retN, xs_expr, xs_raise, xs_app, xs_tr, xss_nil, xss_cons, bi_len_s, bi_len_t, bi_len_l, bi_len_c, bi_abs_i, bi_int_i, bi_tup_t, bi_tup_l, bi_lst_t, bi_lst_l, bi_all_l, bi_any_l, op_add_i, op_sub_i, op_mul_i, op_div_i, op_mod_i, op_add_s, cm_lt_i, cm_le_i, cm_gt_i, cm_ge_i, ci_lt_i, ci_le_i, cm_eq, cm_ne, cm_in, cm_nin, cm_is, cm_isn, is_nn, is_bn, is_in, is_sn, is_tn, is_bb, tr_non, tr_bl, tr_int, tr_str, tr_tup, tr_lst, ty_s, ix_t, ix_l, ix_c, ix_s, it_t, it_l, it_s, it_c, put_nm, put_2, put_3, lim_0, lim_1, lim_2, lim_3, lim_4, lim_5, lim_9, if_true, rbind_ok, rbind_ex, out_ok, out_ex, then_nx, then_rt, then_ex, of_some, frz_val, frz_own, cr_nx, cr_rt, cr_ex, get_zero, get_succ, Env.put, Option.map_some, Option.map_none, Option.bind_some, startE, List.map_cons, List.map_nil, List.length_cons, List.length_nil, List.cons_append, List.nil_append, List.replicate_succ, List.replicate_zero, List.set_cons_zero, List.set_cons_succ, Nat.reduceAdd, Nat.reduceSub, Nat.zero_add, h1, str_isi, Bool.not_true]
/-! ### the law's statements -/
def hdS : Ss → S
  | .cons s _ => s
  | .nil => .pass
def tlS : Ss → Ss
  | .cons _ r => r
  | .nil => .nil
def r1 : Ss := tlS b_law
def r2 : Ss := tlS r1
def r3 : Ss := tlS r2
def r4 : Ss := tlS r3
def r5 : Ss := tlS r4
def r6 : Ss := tlS r5
def r7 : Ss := tlS r6
def r8 : Ss := tlS r7
def r9 : Ss := tlS r8
def r10 : Ss := tlS r9
def r11 : Ss := tlS r10
def r12 : Ss := tlS r11
def r13 : Ss := tlS r12
def r14 : Ss := tlS r13
def bodyOf : S → Ss
  | .loop _ _ b => b
  | _ => .nil
abbrev X12 (s : S) (ρ : Bw.Env) : Out := xs (G 12) md.T.xi md.sb s ρ
abbrev XX12 (s : Ss) (ρ : Bw.Env) : Out := xss (G 12) md.T.xi md.sb s ρ
theorem run_s {B : Ss} {s : S} {r : Ss} (hB : B = .cons s r) {ρ ρ' : Bw.Env} (h : X12 s ρ = .nx ρ') : XX12 B ρ = XX12 r ρ' := by
  subst hB
  show (X12 s ρ).andThen _ = _
  rw [h]
  rfl
/-! the first loop: each line as parted here -/
def body1 : Ss := bodyOf (hdS r1)
theorem step_1 (S L : Option Cell) (rest : Bw.Env) {l : List Nat} (h1 : 10 ∉ l) (h2 : l.length ≤ 900) : XX12 body1 (S :: L :: some (.val (.str l)) :: rest) = .nx (S :: L :: some (.val (.str l)) :: rest) := by
  have a1 : Lv md.T md.sb md.F 12 "line_words" [.str l] = .ok (.val (lw l)) := c_line_words 10 l h1 (by omega)
  have a2 : Lv md.T md.sb md.F 12 "_law_parted" [.str l] = .ok (.val (lw l)) := c_parted 11 l (by omega)
  have a3 : Lv md.T md.sb md.F 12 "line_remark" [.str l] = .ok (.val (lr l)) := c_line_remark 11 l h1
  have a4 : Lv md.T md.sb md.F 12 "_law_noted" [.str l] = .ok (.val (lr l)) := c_noted 11 l
  have a5 : Lv md.T md.sb md.F 12 "line_words" [.str (l ++ [10])] = .ok (.val .non) := c_words_nl 11 _ (by simp)
  have a6 : Lv md.T md.sb md.F 12 "line_remark" [.str (l ++ [10, 35])] = .ok (.val .non) := c_remark_nl 11 _ (by simp)
  have e1 := eqv_self (lw_flat 39 l)
  have e2 := eqv_self (lr_flat 40 l)
  have l1 : l.length + 1 ≤ LIM := by simp only [LIM]; omega
  have l2 : l.length + 2 ≤ LIM := by simp only [LIM]; omega
  simp only [XX12, G, body1, bodyOf, hdS, tlS, r1, b_law, ev_cst, ev_var, ev_take, ev_fz, ev_glb, ev_tup, ev_lst, ev_bin, ev_neg, ev_not, ev_and, ev_or, ev_ite, ev_cmp, ev_cmp2, ev_idx, ev_slc, ev_call, ev_callv, ev_bi, ev_biP, ev_mt, ev_mtP, ev_isi, evs_nil, evs_cons, evo_non, evo_som, evi_of, evi_rg1, evi_rg2, evi_enum, evi_zip, xs_pass, xs_asg, xs_own, xs_asgT, xs_ite, xs_ret, xs_retN, xs_expr, xs_raise, xs_app, xs_tr, xss_nil, xss_cons, bi_len_s, bi_len_t, bi_len_l, bi_len_c, bi_abs_i, bi_int_i, bi_tup_t, bi_tup_l, bi_lst_t, bi_lst_l, bi_all_l, bi_any_l, op_add_i, op_sub_i, op_mul_i, op_div_i, op_mod_i, op_add_s, cm_lt_i, cm_le_i, cm_gt_i, cm_ge_i, ci_lt_i, ci_le_i, cm_eq, cm_ne, cm_in, cm_nin, cm_is, cm_isn, is_nn, is_bn, is_in, is_sn, is_tn, is_bb, tr_non, tr_bl, tr_int, tr_str, tr_tup, tr_lst, ty_s, ix_t, ix_l, ix_c, ix_s, it_t, it_l, it_s, it_c, put_nm, put_2, put_3, lim_0, lim_1, lim_2, lim_3, lim_4, lim_5, lim_9, if_true, rbind_ok, rbind_ex, out_ok, out_ex, then_nx, then_rt, then_ex, of_some, frz_val, frz_own, cr_nx, cr_rt, cr_ex, get_zero, get_succ, Env.put, Option.map_some, Option.map_none, Option.bind_some, startE, List.map_cons, List.map_nil, List.length_cons, List.length_nil, List.cons_append, List.nil_append, List.replicate_succ, List.replicate_zero, List.set_cons_zero, List.set_cons_succ, Nat.reduceAdd, Nat.reduceSub, Nat.zero_add, a1, a2, a3, a4, lw_flat 39, lr_flat 40, e1, e2, Bool.and_self, Bool.not_true, l1, l2, a5, a6]
theorem loop_1 (S L : Option Cell) (rest : Bw.Env) : ∀ {ls : List (List Nat)} {x2 : Option Cell}, (∀ l ∈ ls, 10 ∉ l ∧ l.length ≤ 900) → noOwn x2 →
    ∃ y2, noOwn y2 ∧ forL (.nm 2) (fun ρ => XX12 body1 ρ) (ls.map .str) (S :: L :: x2 :: rest) = .nx (S :: L :: y2 :: rest)
  | [], x2, _, hx => ⟨x2, hx, rfl⟩
  | l :: ls, x2, h, _ => by
    rw [List.map_cons]
    unfold forL
    have ep : Tg.put (.nm 2) (.str l) (S :: L :: x2 :: rest) = some (S :: L :: some (.val (.str l)) :: rest) := rfl
    simp only [ep]
    rw [step_1 S L rest (h l List.mem_cons_self).1 (h l List.mem_cons_self).2, then_nx]
    exact loop_1 S L rest (fun m hm => h m (List.mem_cons_of_mem _ hm)) (fun ds e => by cases e)
end K79

set_option Elab.async false
set_option linter.all false
set_option maxRecDepth 100000
namespace K79
open Bw PySem PySem.Spec PyProof.Rows L2
theorem atI_nat {α : Type} {l : List α} {i : Nat} {v : α} (h : l[i]? = some v) : L2.atI l (0 + (i : Int)) = some v := by
  have hl : i < l.length := (List.getElem?_eq_some_iff.mp h).1
  unfold L2.atI L2.ixN
  have h0 : (0 : Int) ≤ 0 + (i : Nat) := by omega
  have h1 : (0 : Int) + (i : Nat) < (l.length : Nat) := by omega
  rw [if_pos h0, if_pos h1]
  simp [h]
/-! the loop for the fault -/
def faultD : Option Nat → D
  | none => .non
  | some j => .int ((j : Int) + 1)
def orF : Option Nat → Option Nat → Option Nat
  | some j, _ => some j
  | none, g => g
def body5 : Ss := bodyOf (hdS r5)
theorem drop_one {α : Type} {l : List α} {i : Nat} (h : i < l.length) : ∃ a, l[i]? = some a ∧ l.drop i = a :: l.drop (i + 1) := ⟨l[i], List.getElem?_eq_getElem h, List.drop_eq_getElem_cons h⟩
theorem step_5 {x0 x2 x3 x4 : Option Cell} (rest : Bw.Env) {ls : List (List Nat)} (h : ∀ l ∈ ls, 10 ∉ l ∧ l.length ≤ 900) {i : Nat} {a : List Nat} (ha : ls[i]? = some a) (f : Option Nat) :
    XX12 body5 (x0 :: some (.val (.lst (ls.map .str))) :: x2 :: x3 :: x4 :: some (.val (faultD f)) :: some (.val (.int (0 + (i : Nat)))) :: rest) =
      .nx (x0 :: some (.val (.lst (ls.map .str))) :: x2 :: x3 :: x4 :: some (.val (faultD (orF f (if (pl a).all okc then none else some i)))) :: some (.val (.int (0 + (i : Nat)))) :: rest) := by
  have hm : a ∈ ls := List.mem_of_getElem? ha
  have a2 : Lv md.T md.sb md.F 12 "_law_parted" [.str a] = .ok (.val (lw a)) := c_parted 11 a (by have := (h a hm).2; omega)
  have ix : L2.atI (ls.map D.str) (0 + (i : Int)) = some (.str a) := atI_nat (by simp [ha])
  cases f with
  | some j => simp only [XX12, G, body5, bodyOf, hdS, tlS, r1, r2, r3, r4, r5, b_law, faultD, orF, ev_cst, ev_var, ev_take, ev_fz, ev_glb, ev_tup, ev_lst, ev_bin, ev_neg, ev_not, ev_and, ev_or, ev_ite, ev_cmp, ev_cmp2, ev_idx, ev_slc, ev_call, ev_callv, ev_bi, ev_biP, ev_mt, ev_mtP, ev_isi, evs_nil, evs_cons, evo_non, evo_som, evi_of, evi_rg1, evi_rg2, evi_enum, evi_zip, xs_pass, xs_asg, xs_own, xs_asgT, xs_ite, xs_ret, xs_retN, xs_expr, xs_raise, xs_app, xs_tr, xss_nil, xss_cons, bi_len_s, bi_len_t, bi_len_l, bi_len_c, bi_abs_i, bi_int_i, bi_tup_t, bi_tup_l, bi_lst_t, bi_lst_l, bi_all_l, bi_any_l, op_add_i, op_sub_i, op_mul_i, op_div_i, op_mod_i, op_add_s, cm_lt_i, cm_le_i, cm_gt_i, cm_ge_i, ci_lt_i, ci_le_i, cm_eq, cm_ne, cm_in, cm_nin, cm_is, cm_isn, is_nn, is_bn, is_in, is_sn, is_tn, is_bb, tr_non, tr_bl, tr_int, tr_str, tr_tup, tr_lst, ty_s, ix_t, ix_l, ix_c, ix_s, it_t, it_l, it_s, it_c, put_nm, put_2, put_3, lim_0, lim_1, lim_2, lim_3, lim_4, lim_5, lim_9, if_true, rbind_ok, rbind_ex, out_ok, out_ex, then_nx, then_rt, then_ex, of_some, frz_val, frz_own, cr_nx, cr_rt, cr_ex, get_zero, get_succ, Env.put, Option.map_some, Option.map_none, Option.bind_some, startE, List.map_cons, List.map_nil, List.length_cons, List.length_nil, List.cons_append, List.nil_append, List.replicate_succ, List.replicate_zero, List.set_cons_zero, List.set_cons_succ, Nat.reduceAdd, Nat.reduceSub, Nat.zero_add]
  | none =>
    cases hk : (pl a).all okc with
    | true => simp only [XX12, G, body5, bodyOf, hdS, tlS, r1, r2, r3, r4, r5, b_law, faultD, orF, ev_cst, ev_var, ev_take, ev_fz, ev_glb, ev_tup, ev_lst, ev_bin, ev_neg, ev_not, ev_and, ev_or, ev_ite, ev_cmp, ev_cmp2, ev_idx, ev_slc, ev_call, ev_callv, ev_bi, ev_biP, ev_mt, ev_mtP, ev_isi, evs_nil, evs_cons, evo_non, evo_som, evi_of, evi_rg1, evi_rg2, evi_enum, evi_zip, xs_pass, xs_asg, xs_own, xs_asgT, xs_ite, xs_ret, xs_retN, xs_expr, xs_raise, xs_app, xs_tr, xss_nil, xss_cons, bi_len_s, bi_len_t, bi_len_l, bi_len_c, bi_abs_i, bi_int_i, bi_tup_t, bi_tup_l, bi_lst_t, bi_lst_l, bi_all_l, bi_any_l, op_add_i, op_sub_i, op_mul_i, op_div_i, op_mod_i, op_add_s, cm_lt_i, cm_le_i, cm_gt_i, cm_ge_i, ci_lt_i, ci_le_i, cm_eq, cm_ne, cm_in, cm_nin, cm_is, cm_isn, is_nn, is_bn, is_in, is_sn, is_tn, is_bb, tr_non, tr_bl, tr_int, tr_str, tr_tup, tr_lst, ty_s, ix_t, ix_l, ix_c, ix_s, it_t, it_l, it_s, it_c, put_nm, put_2, put_3, lim_0, lim_1, lim_2, lim_3, lim_4, lim_5, lim_9, if_true, rbind_ok, rbind_ex, out_ok, out_ex, then_nx, then_rt, then_ex, of_some, frz_val, frz_own, cr_nx, cr_rt, cr_ex, get_zero, get_succ, Env.put, Option.map_some, Option.map_none, Option.bind_some, startE, List.map_cons, List.map_nil, List.length_cons, List.length_nil, List.cons_append, List.nil_append, List.replicate_succ, List.replicate_zero, List.set_cons_zero, List.set_cons_succ, Nat.reduceAdd, Nat.reduceSub, Nat.zero_add, ix, a2, lw_ok hk]
    | false =>
      have e : (0 : Int) + (i : Nat) + 1 = ((i : Nat) : Int) + 1 := by omega
      simp only [XX12, G, body5, bodyOf, hdS, tlS, r1, r2, r3, r4, r5, b_law, faultD, orF, ev_cst, ev_var, ev_take, ev_fz, ev_glb, ev_tup, ev_lst, ev_bin, ev_neg, ev_not, ev_and, ev_or, ev_ite, ev_cmp, ev_cmp2, ev_idx, ev_slc, ev_call, ev_callv, ev_bi, ev_biP, ev_mt, ev_mtP, ev_isi, evs_nil, evs_cons, evo_non, evo_som, evi_of, evi_rg1, evi_rg2, evi_enum, evi_zip, xs_pass, xs_asg, xs_own, xs_asgT, xs_ite, xs_ret, xs_retN, xs_expr, xs_raise, xs_app, xs_tr, xss_nil, xss_cons, bi_len_s, bi_len_t, bi_len_l, bi_len_c, bi_abs_i, bi_int_i, bi_tup_t, bi_tup_l, bi_lst_t, bi_lst_l, bi_all_l, bi_any_l, op_add_i, op_sub_i, op_mul_i, op_div_i, op_mod_i, op_add_s, cm_lt_i, cm_le_i, cm_gt_i, cm_ge_i, ci_lt_i, ci_le_i, cm_eq, cm_ne, cm_in, cm_nin, cm_is, cm_isn, is_nn, is_bn, is_in, is_sn, is_tn, is_bb, tr_non, tr_bl, tr_int, tr_str, tr_tup, tr_lst, ty_s, ix_t, ix_l, ix_c, ix_s, it_t, it_l, it_s, it_c, put_nm, put_2, put_3, lim_0, lim_1, lim_2, lim_3, lim_4, lim_5, lim_9, if_true, rbind_ok, rbind_ex, out_ok, out_ex, then_nx, then_rt, then_ex, of_some, frz_val, frz_own, cr_nx, cr_rt, cr_ex, get_zero, get_succ, Env.put, Option.map_some, Option.map_none, Option.bind_some, startE, List.map_cons, List.map_nil, List.length_cons, List.length_nil, List.cons_append, List.nil_append, List.replicate_succ, List.replicate_zero, List.set_cons_zero, List.set_cons_succ, Nat.reduceAdd, Nat.reduceSub, Nat.zero_add, ix, a2, lw_no hk, e, Bool.false_eq_true, if_false]
theorem loop_5 {x0 x2 x3 x4 : Option Cell} (rest : Bw.Env) {ls : List (List Nat)} (h : ∀ l ∈ ls, 10 ∉ l ∧ l.length ≤ 900) : ∀ (m i : Nat) {f : Option Nat} {x6 : Option Cell}, i + m = ls.length → noOwn x6 →
    ∃ y6, noOwn y6 ∧ forL (.nm 6) (fun ρ => XX12 body5 ρ) ((List.range' i m).map fun k => .int (0 + (k : Nat))) (x0 :: some (.val (.lst (ls.map .str))) :: x2 :: x3 :: x4 :: some (.val (faultD f)) :: x6 :: rest) =
      .nx (x0 :: some (.val (.lst (ls.map .str))) :: x2 :: x3 :: x4 :: some (.val (faultD (orF f (flt i (ls.drop i))))) :: y6 :: rest)
  | 0, i, f, x6, hi, hx => by
    refine ⟨x6, hx, ?_⟩
    have e : ls.drop i = [] := List.drop_eq_nil_of_le (by omega)
    rw [e]
    cases f <;> rfl
  | m + 1, i, f, x6, hi, _ => by
    obtain ⟨a, ha, hd⟩ := drop_one (l := ls) (i := i) (by omega)
    rw [List.range'_succ, List.map_cons]
    unfold forL
    have ep : Tg.put (.nm 6) (.int (0 + (i : Nat))) (x0 :: some (.val (.lst (ls.map .str))) :: x2 :: x3 :: x4 :: some (.val (faultD f)) :: x6 :: rest) = some (x0 :: some (.val (.lst (ls.map .str))) :: x2 :: x3 :: x4 :: some (.val (faultD f)) :: some (.val (.int (0 + (i : Nat)))) :: rest) := rfl
    simp only [ep]
    rw [step_5 rest h ha f, then_nx]
    obtain ⟨y6, hy, e⟩ := loop_5 (x0 := x0) (x2 := x2) (x3 := x3) (x4 := x4) rest h m (i + 1) (f := orF f (if (pl a).all okc then none else some i)) (x6 := some (.val (.int (0 + (i : Nat))))) (by omega) (fun ds e => by cases e)
    refine ⟨y6, hy, e.trans ?_⟩
    rw [hd]
    cases f with
    | some j => rfl
    | none =>
      have e3 : flt i (a :: ls.drop (i + 1)) = if (pl a).all okc then flt (i + 1) (ls.drop (i + 1)) else some i := rfl
      rw [e3]
      cases (pl a).all okc <;> rfl
/-! the loop for what is told -/
def body11 : Ss := bodyOf (hdS r11)
theorem src_snoc (a b : List Nat) (ls : List (List Nat)) : a ++ src (b :: ls) [] = (a ++ b ++ [10]) ++ src ls [] := by simp [src]
theorem step_11 {x0 x2 x3 x4 x5 x10 x11 x12 : Option Cell} (rest : Bw.Env) {ls : List (List Nat)} (h : ∀ l ∈ ls, 10 ∉ l ∧ l.length ≤ 900) (hall : ∀ l ∈ ls, (pl l).all okc = true) {i : Nat} {a : List Nat} (ha : ls[i]? = some a) {A B : List D} {c : List Nat} {x13 : Option Cell}
    (hA : A.length < 1000) (hB : B.length < 1000) (hc : c.length ≤ 100000) :
    XX12 body11 (x0 :: some (.val (.lst (ls.map .str))) :: x2 :: x3 :: x4 :: x5 :: some (.val (.int (0 + (i : Nat)))) :: some (.own A) :: some (.own B) :: some (.val (.str c)) :: x10 :: x11 :: x12 :: x13 :: rest) =
      .nx (x0 :: some (.val (.lst (ls.map .str))) :: x2 :: x3 :: x4 :: x5 :: some (.val (.int (0 + (i : Nat)))) :: some (.own (A ++ (if wds (pl a) = [] then [] else [.tup [.int ((i : Int) + 1), .tup (wds (pl a))]]))) ::
        some (.own (B ++ (if 35 ∈ a then [.tup [.int ((i : Int) + 1), lr a]] else []))) :: some (.val (.str (c ++ cutR a ++ [10]))) :: x10 :: x11 :: x12 :: some (.val (.tup (wds (pl a)))) :: rest) := by
  have hm : a ∈ ls := List.mem_of_getElem? ha
  have hl := (h a hm).2
  have a2 : Lv md.T md.sb md.F 12 "_law_parted" [.str a] = .ok (.val (.tup (wds (pl a)))) := by
    have := c_parted 11 a (by omega)
    rw [lw_ok (hall a hm)] at this
    exact this
  have a4 : Lv md.T md.sb md.F 12 "_law_noted" [.str a] = .ok (.val (lr a)) := c_noted 11 a
  have ix : L2.atI (ls.map D.str) (0 + (i : Int)) = some (.str a) := atI_nat (by simp [ha])
  have e : (0 : Int) + (i : Nat) + 1 = ((i : Nat) : Int) + 1 := by omega
  have hA' : A.length < LIM := by simp only [LIM]; omega
  have hB' : B.length < LIM := by simp only [LIM]; omega
  obtain ⟨r, hr⟩ := spl_head a
  have hsp := split_run a 35 (by omega) (by omega)
  rw [hr] at hsp
  have cl := cutR_len a
  have l1 : c.length + (cutR a).length ≤ LIM := by simp only [LIM]; omega
  have l2 : (c ++ cutR a).length + 1 ≤ LIM := by simp only [LIM, List.length_append]; omega
  have hw : ∀ b : Bool, (wds (pl a)).isEmpty = b → (wds (pl a) = []) = (b = true) := fun b hb => by
    rw [← hb]
    simp
  by_cases h35 : 35 ∈ a
  · have hrs : Mt.run .rstripC (.str (pl a)) [.str [32]] = some (.val (.str (cutR a))) := by
      show some (Cell.val (.str (TL.tl (Txt.rstripChars (sOf (pl a)) (sOf [32]))))) = _
      rw [(cut_ok (hall a hm)).2.2.2.2 h35]
    cases hd : (wds (pl a)).isEmpty with
    | true =>
      have hd2 : wds (pl a) = [] := by simpa using hd
      simp only [XX12, G, body11, bodyOf, hdS, tlS, r1, r2, r3, r4, r5, r6, r7, r8, r9, r10, r11, b_law, ev_cst, ev_var, ev_take, ev_fz, ev_glb, ev_tup, ev_lst, ev_bin, ev_neg, ev_not, ev_and, ev_or, ev_ite, ev_cmp, ev_cmp2, ev_idx, ev_slc, ev_call, ev_callv, ev_bi, ev_biP, ev_mt, ev_mtP, ev_isi, evs_nil, evs_cons, evo_non, evo_som, evi_of, evi_rg1, evi_rg2, evi_enum, evi_zip, xs_pass, xs_asg, xs_own, xs_asgT, xs_ite, xs_ret, xs_retN, xs_expr, xs_raise, xs_app, xs_tr, xss_nil, xss_cons, bi_len_s, bi_len_t, bi_len_l, bi_len_c, bi_abs_i, bi_int_i, bi_tup_t, bi_tup_l, bi_lst_t, bi_lst_l, bi_all_l, bi_any_l, op_add_i, op_sub_i, op_mul_i, op_div_i, op_mod_i, op_add_s, cm_lt_i, cm_le_i, cm_gt_i, cm_ge_i, ci_lt_i, ci_le_i, cm_eq, cm_ne, cm_in, cm_nin, cm_is, cm_isn, is_nn, is_bn, is_in, is_sn, is_tn, is_bb, tr_non, tr_bl, tr_int, tr_str, tr_tup, tr_lst, ty_s, ix_t, ix_l, ix_c, ix_s, it_t, it_l, it_s, it_c, put_nm, put_2, put_3, lim_0, lim_1, lim_2, lim_3, lim_4, lim_5, lim_9, if_true, rbind_ok, rbind_ex, out_ok, out_ex, then_nx, then_rt, then_ex, of_some, frz_val, frz_own, cr_nx, cr_rt, cr_ex, get_zero, get_succ, Env.put, Option.map_some, Option.map_none, Option.bind_some, startE, List.map_cons, List.map_nil, List.length_cons, List.length_nil, List.cons_append, List.nil_append, List.replicate_succ, List.replicate_zero, List.set_cons_zero, List.set_cons_succ, Nat.reduceAdd, Nat.reduceSub, Nat.zero_add, ix, a2, a4, lr_some h35, hd2, List.isEmpty_nil, Bool.not_true, Bool.not_false, if_pos h35, e, hA', hB', hsp, atI_head, hrs, l1, l2, List.append_nil]
    | false =>
      have hd2 : wds (pl a) ≠ [] := by intro z; rw [z] at hd; cases hd
      simp only [XX12, G, body11, bodyOf, hdS, tlS, r1, r2, r3, r4, r5, r6, r7, r8, r9, r10, r11, b_law, ev_cst, ev_var, ev_take, ev_fz, ev_glb, ev_tup, ev_lst, ev_bin, ev_neg, ev_not, ev_and, ev_or, ev_ite, ev_cmp, ev_cmp2, ev_idx, ev_slc, ev_call, ev_callv, ev_bi, ev_biP, ev_mt, ev_mtP, ev_isi, evs_nil, evs_cons, evo_non, evo_som, evi_of, evi_rg1, evi_rg2, evi_enum, evi_zip, xs_pass, xs_asg, xs_own, xs_asgT, xs_ite, xs_ret, xs_retN, xs_expr, xs_raise, xs_app, xs_tr, xss_nil, xss_cons, bi_len_s, bi_len_t, bi_len_l, bi_len_c, bi_abs_i, bi_int_i, bi_tup_t, bi_tup_l, bi_lst_t, bi_lst_l, bi_all_l, bi_any_l, op_add_i, op_sub_i, op_mul_i, op_div_i, op_mod_i, op_add_s, cm_lt_i, cm_le_i, cm_gt_i, cm_ge_i, ci_lt_i, ci_le_i, cm_eq, cm_ne, cm_in, cm_nin, cm_is, cm_isn, is_nn, is_bn, is_in, is_sn, is_tn, is_bb, tr_non, tr_bl, tr_int, tr_str, tr_tup, tr_lst, ty_s, ix_t, ix_l, ix_c, ix_s, it_t, it_l, it_s, it_c, put_nm, put_2, put_3, lim_0, lim_1, lim_2, lim_3, lim_4, lim_5, lim_9, if_true, rbind_ok, rbind_ex, out_ok, out_ex, then_nx, then_rt, then_ex, of_some, frz_val, frz_own, cr_nx, cr_rt, cr_ex, get_zero, get_succ, Env.put, Option.map_some, Option.map_none, Option.bind_some, startE, List.map_cons, List.map_nil, List.length_cons, List.length_nil, List.cons_append, List.nil_append, List.replicate_succ, List.replicate_zero, List.set_cons_zero, List.set_cons_succ, Nat.reduceAdd, Nat.reduceSub, Nat.zero_add, ix, a2, a4, lr_some h35, hd, if_neg hd2, Bool.not_true, Bool.not_false, if_pos h35, e, hA', hB', hsp, atI_head, hrs, l1, l2]
  · have hcut : cutR a = a := by unfold cutR; rw [if_neg h35]
    rw [hcut] at l1 l2
    cases hd : (wds (pl a)).isEmpty with
    | true =>
      have hd2 : wds (pl a) = [] := by simpa using hd
      simp only [XX12, G, body11, bodyOf, hdS, tlS, r1, r2, r3, r4, r5, r6, r7, r8, r9, r10, r11, b_law, ev_cst, ev_var, ev_take, ev_fz, ev_glb, ev_tup, ev_lst, ev_bin, ev_neg, ev_not, ev_and, ev_or, ev_ite, ev_cmp, ev_cmp2, ev_idx, ev_slc, ev_call, ev_callv, ev_bi, ev_biP, ev_mt, ev_mtP, ev_isi, evs_nil, evs_cons, evo_non, evo_som, evi_of, evi_rg1, evi_rg2, evi_enum, evi_zip, xs_pass, xs_asg, xs_own, xs_asgT, xs_ite, xs_ret, xs_retN, xs_expr, xs_raise, xs_app, xs_tr, xss_nil, xss_cons, bi_len_s, bi_len_t, bi_len_l, bi_len_c, bi_abs_i, bi_int_i, bi_tup_t, bi_tup_l, bi_lst_t, bi_lst_l, bi_all_l, bi_any_l, op_add_i, op_sub_i, op_mul_i, op_div_i, op_mod_i, op_add_s, cm_lt_i, cm_le_i, cm_gt_i, cm_ge_i, ci_lt_i, ci_le_i, cm_eq, cm_ne, cm_in, cm_nin, cm_is, cm_isn, is_nn, is_bn, is_in, is_sn, is_tn, is_bb, tr_non, tr_bl, tr_int, tr_str, tr_tup, tr_lst, ty_s, ix_t, ix_l, ix_c, ix_s, it_t, it_l, it_s, it_c, put_nm, put_2, put_3, lim_0, lim_1, lim_2, lim_3, lim_4, lim_5, lim_9, if_true, rbind_ok, rbind_ex, out_ok, out_ex, then_nx, then_rt, then_ex, of_some, frz_val, frz_own, cr_nx, cr_rt, cr_ex, get_zero, get_succ, Env.put, Option.map_some, Option.map_none, Option.bind_some, startE, List.map_cons, List.map_nil, List.length_cons, List.length_nil, List.cons_append, List.nil_append, List.replicate_succ, List.replicate_zero, List.set_cons_zero, List.set_cons_succ, Nat.reduceAdd, Nat.reduceSub, Nat.zero_add, ix, a2, a4, lr_none h35, hd2, List.isEmpty_nil, Bool.not_true, Bool.not_false, if_neg h35, e, hA', hB', l1, l2, List.append_nil, hcut]
    | false =>
      have hd2 : wds (pl a) ≠ [] := by intro z; rw [z] at hd; cases hd
      simp only [XX12, G, body11, bodyOf, hdS, tlS, r1, r2, r3, r4, r5, r6, r7, r8, r9, r10, r11, b_law, ev_cst, ev_var, ev_take, ev_fz, ev_glb, ev_tup, ev_lst, ev_bin, ev_neg, ev_not, ev_and, ev_or, ev_ite, ev_cmp, ev_cmp2, ev_idx, ev_slc, ev_call, ev_callv, ev_bi, ev_biP, ev_mt, ev_mtP, ev_isi, evs_nil, evs_cons, evo_non, evo_som, evi_of, evi_rg1, evi_rg2, evi_enum, evi_zip, xs_pass, xs_asg, xs_own, xs_asgT, xs_ite, xs_ret, xs_retN, xs_expr, xs_raise, xs_app, xs_tr, xss_nil, xss_cons, bi_len_s, bi_len_t, bi_len_l, bi_len_c, bi_abs_i, bi_int_i, bi_tup_t, bi_tup_l, bi_lst_t, bi_lst_l, bi_all_l, bi_any_l, op_add_i, op_sub_i, op_mul_i, op_div_i, op_mod_i, op_add_s, cm_lt_i, cm_le_i, cm_gt_i, cm_ge_i, ci_lt_i, ci_le_i, cm_eq, cm_ne, cm_in, cm_nin, cm_is, cm_isn, is_nn, is_bn, is_in, is_sn, is_tn, is_bb, tr_non, tr_bl, tr_int, tr_str, tr_tup, tr_lst, ty_s, ix_t, ix_l, ix_c, ix_s, it_t, it_l, it_s, it_c, put_nm, put_2, put_3, lim_0, lim_1, lim_2, lim_3, lim_4, lim_5, lim_9, if_true, rbind_ok, rbind_ex, out_ok, out_ex, then_nx, then_rt, then_ex, of_some, frz_val, frz_own, cr_nx, cr_rt, cr_ex, get_zero, get_succ, Env.put, Option.map_some, Option.map_none, Option.bind_some, startE, List.map_cons, List.map_nil, List.length_cons, List.length_nil, List.cons_append, List.nil_append, List.replicate_succ, List.replicate_zero, List.set_cons_zero, List.set_cons_succ, Nat.reduceAdd, Nat.reduceSub, Nat.zero_add, ix, a2, a4, lr_none h35, hd, if_neg hd2, Bool.not_true, Bool.not_false, if_neg h35, e, hA', hB', l1, l2, List.append_nil, hcut]
theorem loop_11 {x0 x2 x3 x4 x5 x10 x11 x12 : Option Cell} (rest : Bw.Env) {ls : List (List Nat)} (h : ∀ l ∈ ls, 10 ∉ l ∧ l.length ≤ 900) (hall : ∀ l ∈ ls, (pl l).all okc = true) : ∀ (m i : Nat) {A B : List D} {c : List Nat} {x6 x13 : Option Cell}, i + m = ls.length →
    A.length + m ≤ 100 → B.length + m ≤ 100 → c.length + 1000 * m ≤ 100000 →
    ∃ y6 y13, forL (.nm 6) (fun ρ => XX12 body11 ρ) ((List.range' i m).map fun k => .int (0 + (k : Nat))) (x0 :: some (.val (.lst (ls.map .str))) :: x2 :: x3 :: x4 :: x5 :: x6 :: some (.own A) :: some (.own B) :: some (.val (.str c)) :: x10 :: x11 :: x12 :: x13 :: rest) =
      .nx (x0 :: some (.val (.lst (ls.map .str))) :: x2 :: x3 :: x4 :: x5 :: y6 :: some (.own (A ++ told i (ls.drop i))) :: some (.own (B ++ noted i (ls.drop i))) :: some (.val (.str (c ++ src ((ls.drop i).map cutR) []))) :: x10 :: x11 :: x12 :: y13 :: rest)
  | 0, i, A, B, c, x6, x13, hi, _, _, _ => by
    refine ⟨x6, x13, ?_⟩
    have e : ls.drop i = [] := List.drop_eq_nil_of_le (by omega)
    rw [e]
    simp [told, noted, src, forL]
  | m + 1, i, A, B, c, x6, x13, hi, hA, hB, hc => by
    obtain ⟨a, ha, hd⟩ := drop_one (l := ls) (i := i) (by omega)
    have hm : a ∈ ls := List.mem_of_getElem? ha
    have cl := cutR_len a
    have hl := (h a hm).2
    rw [List.range'_succ, List.map_cons]
    unfold forL
    have ep : Tg.put (.nm 6) (.int (0 + (i : Nat))) (x0 :: some (.val (.lst (ls.map .str))) :: x2 :: x3 :: x4 :: x5 :: x6 :: some (.own A) :: some (.own B) :: some (.val (.str c)) :: x10 :: x11 :: x12 :: x13 :: rest) = some (x0 :: some (.val (.lst (ls.map .str))) :: x2 :: x3 :: x4 :: x5 :: some (.val (.int (0 + (i : Nat)))) :: some (.own A) :: some (.own B) :: some (.val (.str c)) :: x10 :: x11 :: x12 :: x13 :: rest) := rfl
    simp only [ep]
    rw [step_11 rest h hall ha (by omega) (by omega) (by omega), then_nx]
    obtain ⟨y6, y13, e⟩ := loop_11 (x0 := x0) (x2 := x2) (x3 := x3) (x4 := x4) (x5 := x5) (x10 := x10) (x11 := x11) (x12 := x12) rest h hall m (i + 1)
      (A := A ++ (if wds (pl a) = [] then [] else [.tup [.int ((i : Int) + 1), .tup (wds (pl a))]])) (B := B ++ (if 35 ∈ a then [.tup [.int ((i : Int) + 1), lr a]] else [])) (c := c ++ cutR a ++ [10]) (x6 := some (.val (.int (0 + (i : Nat))))) (x13 := some (.val (.tup (wds (pl a))))) (by omega)
      (by split <;> simp <;> omega) (by split <;> simp <;> omega) (by simp; omega)
    refine ⟨y6, y13, e.trans ?_⟩
    rw [hd, List.map_cons, src_snoc]
    have e1 : told i (a :: ls.drop (i + 1)) = (if wds (pl a) = [] then [] else [.tup [.int ((i : Int) + 1), .tup (wds (pl a))]]) ++ told (i + 1) (ls.drop (i + 1)) := rfl
    have e2 : noted i (a :: ls.drop (i + 1)) = (if 35 ∈ a then [.tup [.int ((i : Int) + 1), lr a]] else []) ++ noted (i + 1) (ls.drop (i + 1)) := rfl
    rw [e1, e2, List.append_assoc, List.append_assoc]
end K79

set_option Elab.async false
set_option linter.all false
set_option maxRecDepth 100000
set_option maxHeartbeats 0
namespace K79
open Bw PySem PySem.Spec PyProof.Rows L2
theorem tail_ok (e0 e1 e2 e3 e4 e5 e6 e7 e8 e9 e10 e11 e12 e13 : Option Cell) : XX12 r14 [e0, e1, e2, e3, e4, e5, e6, e7, e8, e9, e10, e11, e12, e13, none] = .rt (.val (.bl true)) := by
  kernel_rfl
end K79

set_option Elab.async false
set_option linter.all false
set_option maxRecDepth 100000
set_option maxHeartbeats 0
namespace K79
open Bw PySem PySem.Spec PyProof.Rows L2
theorem run_x {B : Ss} {s : S} {r : Ss} (hB : B = .cons s r) {ρ : Bw.Env} {o : Out} (h : X12 s ρ = o) (hs : ∀ ρ', o ≠ .nx ρ') : XX12 B ρ = o := by
  subst hB
  show (X12 s ρ).andThen _ = _
  rw [h]
  cases o with
  | nx ρ' => exact absurd rfl (hs ρ')
  | _ => rfl
theorem rangeL_eq (m : Nat) : rangeL 0 m = (List.range' 0 m).map fun k => .int (0 + (k : Nat)) := by
  unfold rangeL
  rw [List.range_eq_range']
def left_ : List Nat := [108, 101, 102, 116]
def tail_ (b : Bool) : List Nat := if b then [] else left_
def flt2 (b : Bool) (ls : List (List Nat)) : Option Nat := orF (flt 0 ls) (if b then none else some ls.length)
theorem tail_gd (b : Bool) : (tail_ b).length ≤ 1000 ∧ 10 ∉ tail_ b := by cases b <;> exact ⟨by decide, by decide⟩
theorem slR_eq (b : Bool) (ls : List (List Nat)) : slR ls (tail_ b) = (flt2 b ls).map fun j => ⟨"BadLine", some ("line", .int ((j : Int) + 1))⟩ := by
  unfold slR flt2
  cases flt 0 ls with
  | some j => rfl
  | none => cases b <;> rfl
/-! with a fault: each of the three says it -/
theorem try_fault {ls : List (List Nat)} (h : okL ls) {b : Bool} {j : Nat} (hj : flt2 b ls = some j) {w : Nat} (hw : w < 3) : Lv md.T md.sb md.F 12 "_law_try" [.int (w : Nat), .str (src ls (tail_ b))] = .ok (.val (.tup [lineS, .int ((j : Int) + 1)])) := by
  have hr : slR ls (tail_ b) = some ⟨"BadLine", some ("line", .int ((j : Int) + 1))⟩ := by rw [slR_eq, hj]; rfl
  obtain ⟨t1, t2⟩ := tail_gd b
  have : w = 0 ∨ w = 1 ∨ w = 2 := by omega
  refine c_try_ex 11 w hw _ _ ?_
  rcases this with rfl | rfl | rfl
  · have z := c_sl 8 h t1 t2
    rw [hr] at z
    exact z
  · have z := c_remarks_of 7 h t1 t2
    rw [hr] at z
    exact z
  · have z := c_without_remarks 7 h t1 t2
    rw [hr] at z
    exact z
theorem fault_ok {ls : List (List Nat)} (h : okL ls) {b : Bool} {j : Nat} (hj : flt2 b ls = some j) {e0 e1 e2 e3 e6 e7 e8 e9 e10 e11 e12 e13 : Option Cell} :
    X12 (hdS r7) [e0, e1, e2, e3, some (.val (.str (src ls (tail_ b)))), some (.val (faultD (some j))), e6, e7, e8, e9, e10, e11, e12, e13, none] = .rt (.val (.bl true)) := by
  have hc := comp_ok (Γ := Lv md.T md.sb md.F 12) (i := 14) (e := .cmp .eq (.call "_law_try" (.cons (.var 14) (.cons (.var 4) .nil))) (.tup (.cons (.cst lineS) (.cons (.var 5) .nil)))) (it := .rg1 (.cst (.int 3))) (u := fun k : Nat => .int (0 + (k : Nat))) (h := fun _ => .bl true) (l := List.range 3)
    (ρ0 := [e0, e1, e2, e3, some (.val (.str (src ls (tail_ b)))), some (.val (.int ((j : Int) + 1))), e6, e7, e8, e9, e10, e11, e12, e13, none]) (ρ := [e0, e1, e2, e3, some (.val (.str (src ls (tail_ b)))), some (.val (.int ((j : Int) + 1))), e6, e7, e8, e9, e10, e11, e12, e13, none])
    (by simp only [ev_cst, ev_var, ev_take, ev_fz, ev_glb, ev_tup, ev_lst, ev_bin, ev_neg, ev_not, ev_and, ev_or, ev_ite, ev_cmp, ev_cmp2, ev_idx, ev_slc, ev_call, ev_callv, ev_bi, ev_biP, ev_mt, ev_mtP, ev_isi, evs_nil, evs_cons, evo_non, evo_som, evi_of, evi_rg1, evi_rg2, evi_enum, evi_zip, xs_pass, xs_asg, xs_own, xs_asgT, xs_ite, xs_ret, xs_retN, xs_expr, xs_raise, xs_app, xs_tr, xss_nil, xss_cons, bi_len_s, bi_len_t, bi_len_l, bi_len_c, bi_abs_i, bi_int_i, bi_tup_t, bi_tup_l, bi_lst_t, bi_lst_l, bi_all_l, bi_any_l, op_add_i, op_sub_i, op_mul_i, op_div_i, op_mod_i, op_add_s, cm_lt_i, cm_le_i, cm_gt_i, cm_ge_i, ci_lt_i, ci_le_i, cm_eq, cm_ne, cm_in, cm_nin, cm_is, cm_isn, is_nn, is_bn, is_in, is_sn, is_tn, is_bb, tr_non, tr_bl, tr_int, tr_str, tr_tup, tr_lst, ty_s, ix_t, ix_l, ix_c, ix_s, it_t, it_l, it_s, it_c, put_nm, put_2, put_3, lim_0, lim_1, lim_2, lim_3, lim_4, lim_5, lim_9, if_true, rbind_ok, rbind_ex, out_ok, out_ex, then_nx, then_rt, then_ex, of_some, frz_val, frz_own, cr_nx, cr_rt, cr_ex, get_zero, get_succ, Env.put, Option.map_some, Option.map_none, Option.bind_some, startE, List.map_cons, List.map_nil, List.length_cons, List.length_nil, List.cons_append, List.nil_append, List.replicate_succ, List.replicate_zero, List.set_cons_zero, List.set_cons_succ, Nat.reduceAdd, Nat.reduceSub, Nat.zero_add, small62_of (i := 3) (by omega)]; rfl) rfl (by simp [LIM]) (fun k hk => by
      have ht := try_fault h hj (w := k) (by simpa using hk)
      have e := Int.zero_add (k : Int)
      refine ⟨.val (.bl true), ?_, rfl⟩
      have fl : D.flat 40 (.tup [lineS, .int ((j : Int) + 1)]) = true := rfl
      have eq := eqv_self fl
      simp only [ev_cst, ev_var, ev_take, ev_fz, ev_glb, ev_tup, ev_lst, ev_bin, ev_neg, ev_not, ev_and, ev_or, ev_ite, ev_cmp, ev_cmp2, ev_idx, ev_slc, ev_call, ev_callv, ev_bi, ev_biP, ev_mt, ev_mtP, ev_isi, evs_nil, evs_cons, evo_non, evo_som, evi_of, evi_rg1, evi_rg2, evi_enum, evi_zip, xs_pass, xs_asg, xs_own, xs_asgT, xs_ite, xs_ret, xs_retN, xs_expr, xs_raise, xs_app, xs_tr, xss_nil, xss_cons, bi_len_s, bi_len_t, bi_len_l, bi_len_c, bi_abs_i, bi_int_i, bi_tup_t, bi_tup_l, bi_lst_t, bi_lst_l, bi_all_l, bi_any_l, op_add_i, op_sub_i, op_mul_i, op_div_i, op_mod_i, op_add_s, cm_lt_i, cm_le_i, cm_gt_i, cm_ge_i, ci_lt_i, ci_le_i, cm_eq, cm_ne, cm_in, cm_nin, cm_is, cm_isn, is_nn, is_bn, is_in, is_sn, is_tn, is_bb, tr_non, tr_bl, tr_int, tr_str, tr_tup, tr_lst, ty_s, ix_t, ix_l, ix_c, ix_s, it_t, it_l, it_s, it_c, put_nm, put_2, put_3, lim_0, lim_1, lim_2, lim_3, lim_4, lim_5, lim_9, if_true, rbind_ok, rbind_ex, out_ok, out_ex, then_nx, then_rt, then_ex, of_some, frz_val, frz_own, cr_nx, cr_rt, cr_ex, get_zero, get_succ, Env.put, Option.map_some, Option.map_none, Option.bind_some, startE, List.map_cons, List.map_nil, List.length_cons, List.length_nil, List.cons_append, List.nil_append, List.replicate_succ, List.replicate_zero, List.set_cons_zero, List.set_cons_succ, Nat.reduceAdd, Nat.reduceSub, Nat.zero_add, e, ht, fl, eq, Bool.and_self])
  have ha : allOf D.asBl ((List.range 3).map fun _ => D.bl true) = some [true, true, true] := rfl
  unfold lineS at hc
  simp only [X12, G, hdS, tlS, r1, r2, r3, r4, r5, r6, r7, b_law, faultD, ev_cst, ev_var, ev_take, ev_fz, ev_glb, ev_tup, ev_lst, ev_bin, ev_neg, ev_not, ev_and, ev_or, ev_ite, ev_cmp, ev_cmp2, ev_idx, ev_slc, ev_call, ev_callv, ev_bi, ev_biP, ev_mt, ev_mtP, ev_isi, evs_nil, evs_cons, evo_non, evo_som, evi_of, evi_rg1, evi_rg2, evi_enum, evi_zip, xs_pass, xs_asg, xs_own, xs_asgT, xs_ite, xs_ret, xs_retN, xs_expr, xs_raise, xs_app, xs_tr, xss_nil, xss_cons, bi_len_s, bi_len_t, bi_len_l, bi_len_c, bi_abs_i, bi_int_i, bi_tup_t, bi_tup_l, bi_lst_t, bi_lst_l, bi_all_l, bi_any_l, op_add_i, op_sub_i, op_mul_i, op_div_i, op_mod_i, op_add_s, cm_lt_i, cm_le_i, cm_gt_i, cm_ge_i, ci_lt_i, ci_le_i, cm_eq, cm_ne, cm_in, cm_nin, cm_is, cm_isn, is_nn, is_bn, is_in, is_sn, is_tn, is_bb, tr_non, tr_bl, tr_int, tr_str, tr_tup, tr_lst, ty_s, ix_t, ix_l, ix_c, ix_s, it_t, it_l, it_s, it_c, put_nm, put_2, put_3, lim_0, lim_1, lim_2, lim_3, lim_4, lim_5, lim_9, if_true, rbind_ok, rbind_ex, out_ok, out_ex, then_nx, then_rt, then_ex, of_some, frz_val, frz_own, cr_nx, cr_rt, cr_ex, get_zero, get_succ, Env.put, Option.map_some, Option.map_none, Option.bind_some, startE, List.map_cons, List.map_nil, List.length_cons, List.length_nil, List.cons_append, List.nil_append, List.replicate_succ, List.replicate_zero, List.set_cons_zero, List.set_cons_succ, Nat.reduceAdd, Nat.reduceSub, Nat.zero_add, hc, ha, Bool.not_false]
  rfl
end K79

set_option Elab.async false
set_option linter.all false
set_option maxRecDepth 100000
set_option maxHeartbeats 0
namespace K79
open Bw PySem PySem.Spec PyProof.Rows L2
theorem ya {Γ : Str → List D → CR} {ρ : Bw.Env} {ds : List D} (he : ρ.get 1 = some (.val (.lst ds))) : ev Γ (.bi .len (.cons (.var 1) .nil)) ρ = .ok (.val (.int (ds.length : Nat))) ρ := by
  simp only [ev_bi, evs_cons, evs_nil, ev_var, he, rbind_ok, frz_val, bi_len_l, of_some]
theorem yb {Γ : Str → List D → CR} {ρ : Bw.Env} {ds : List D} (h : ev Γ (.bi .len (.cons (.var 1) .nil)) ρ = .ok (.val (.int (ds.length : Nat))) ρ) : evi Γ (.rg1 (.bi .len (.cons (.var 1) .nil))) ρ = if small62 (ds.length : Nat) then .ok (rangeL 0 ((ds.length : Nat) : Int).toNat) ρ else .no := by
  rw [evi_rg1, h, rbind_ok]
  rfl
theorem evi_len {Γ : Str → List D → CR} {ρ : Bw.Env} {ds : List D} (he : ρ.get 1 = some (.val (.lst ds))) (hl : ds.length ≤ 20) : evi Γ (.rg1 (.bi .len (.cons (.var 1) .nil))) ρ = .ok (rangeL 0 ds.length) ρ := by
  have hs : small62 (ds.length : Nat) = true := small62_of (i := (ds.length : Nat)) (by omega)
  have e := yb (ya (Γ := Γ) he)
  rw [hs] at e
  rw [e, Int.toNat_natCast]
  rfl
/-! without a fault -/
theorem try_told {ls : List (List Nat)} (h : okL ls) (hall : ∀ l ∈ ls, (pl l).all okc = true) : Lv md.T md.sb md.F 12 "_law_try" [.int 0, .str (src ls [])] = .ok (.val (.tup [toldS, .tup (told 0 ls)])) ∧
    Lv md.T md.sb md.F 12 "_law_try" [.int 1, .str (src ls [])] = .ok (.val (.tup [toldS, .tup (noted 0 ls)])) ∧ Lv md.T md.sb md.F 12 "_law_try" [.int 2, .str (src ls [])] = .ok (.val (.tup [toldS, .str (src (ls.map cutR) [])])) := by
  have hr := slR_none hall
  refine ⟨c_try_ok 11 0 (by omega) _ (.val (.tup (told 0 ls))) ?_, c_try_ok 11 1 (by omega) _ (.val (.tup (noted 0 ls))) ?_, c_try_ok 11 2 (by omega) _ (.val (.str (src (ls.map cutR) []))) ?_⟩
  · have z := c_sl 8 h (t := []) (by simp) (by simp)
    rw [hr] at z
    exact z
  · have z := c_remarks_of 7 h (t := []) (by simp) (by simp)
    rw [hr] at z
    exact z
  · have z := c_without_remarks 7 h (t := []) (by simp) (by simp)
    rw [hr] at z
    exact z
theorem toldS_str {s : List Nat} : D.flat 40 (.tup [toldS, .str s]) = true := rfl
theorem st12_ok {ls : List (List Nat)} (h : okL ls) (hall : ∀ l ∈ ls, (pl l).all okc = true) {e0 e1 e2 e3 e5 e6 e10 e11 e12 e13 : Option Cell} :
    X12 (hdS r12) [e0, e1, e2, e3, some (.val (.str (src ls []))), e5, e6, some (.own (told 0 ls)), some (.own (noted 0 ls)), some (.val (.str (src (ls.map cutR) []))), e10, e11, e12, e13, none] =
      .nx [e0, e1, e2, e3, some (.val (.str (src ls []))), e5, e6, some (.own (told 0 ls)), some (.own (noted 0 ls)), some (.val (.str (src (ls.map cutR) []))), e10, e11, e12, e13, none] := by
  obtain ⟨t0, t1, t2⟩ := try_told h hall
  have f0 := toldS_flat (told_flat 36 0 ls)
  have f1 := toldS_flat (noted_flat 37 0 ls)
  have f2 := toldS_str (s := src (ls.map cutR) [])
  have q0 := eqv_self f0
  have q1 := eqv_self f1
  have q2 := eqv_self f2
  unfold toldS at f0 f1 f2 q0 q1 q2 t0 t1 t2
  simp only [X12, G, hdS, tlS, r1, r2, r3, r4, r5, r6, r7, r8, r9, r10, r11, r12, b_law, ev_cst, ev_var, ev_take, ev_fz, ev_glb, ev_tup, ev_lst, ev_bin, ev_neg, ev_not, ev_and, ev_or, ev_ite, ev_cmp, ev_cmp2, ev_idx, ev_slc, ev_call, ev_callv, ev_bi, ev_biP, ev_mt, ev_mtP, ev_isi, evs_nil, evs_cons, evo_non, evo_som, evi_of, evi_rg1, evi_rg2, evi_enum, evi_zip, xs_pass, xs_asg, xs_own, xs_asgT, xs_ite, xs_ret, xs_retN, xs_expr, xs_raise, xs_app, xs_tr, xss_nil, xss_cons, bi_len_s, bi_len_t, bi_len_l, bi_len_c, bi_abs_i, bi_int_i, bi_tup_t, bi_tup_l, bi_lst_t, bi_lst_l, bi_all_l, bi_any_l, op_add_i, op_sub_i, op_mul_i, op_div_i, op_mod_i, op_add_s, cm_lt_i, cm_le_i, cm_gt_i, cm_ge_i, ci_lt_i, ci_le_i, cm_eq, cm_ne, cm_in, cm_nin, cm_is, cm_isn, is_nn, is_bn, is_in, is_sn, is_tn, is_bb, tr_non, tr_bl, tr_int, tr_str, tr_tup, tr_lst, ty_s, ix_t, ix_l, ix_c, ix_s, it_t, it_l, it_s, it_c, put_nm, put_2, put_3, lim_0, lim_1, lim_2, lim_3, lim_4, lim_5, lim_9, if_true, rbind_ok, rbind_ex, out_ok, out_ex, then_nx, then_rt, then_ex, of_some, frz_val, frz_own, cr_nx, cr_rt, cr_ex, get_zero, get_succ, Env.put, Option.map_some, Option.map_none, Option.bind_some, startE, List.map_cons, List.map_nil, List.length_cons, List.length_nil, List.cons_append, List.nil_append, List.replicate_succ, List.replicate_zero, List.set_cons_zero, List.set_cons_succ, Nat.reduceAdd, Nat.reduceSub, Nat.zero_add, t0, t1, t2, f0, f1, f2, q0, q1, q2, Bool.and_self, Bool.not_true]
theorem st13_ok {ls : List (List Nat)} (h : okL ls) (hall : ∀ l ∈ ls, (pl l).all okc = true) {e0 e1 e2 e3 e4 e5 e6 e8 e10 e11 e12 e13 : Option Cell} :
    X12 (hdS r13) [e0, e1, e2, e3, e4, e5, e6, some (.own (told 0 ls)), e8, some (.val (.str (src (ls.map cutR) []))), e10, e11, e12, e13, none] =
      .nx [e0, e1, e2, e3, e4, e5, e6, some (.own (told 0 ls)), e8, some (.val (.str (src (ls.map cutR) []))), e10, e11, e12, e13, none] := by
  have hall2 : ∀ l ∈ ls.map cutR, (pl l).all okc = true := fun l hl => by
    obtain ⟨m, hm, rfl⟩ := List.mem_map.mp hl
    exact (cut_ok (hall m hm)).2.1
  obtain ⟨t0, t1, _⟩ := try_told (okL_cut h hall) hall2
  rw [told_cut hall] at t0
  rw [noted_none fun l hl => by
    obtain ⟨m, hm, rfl⟩ := List.mem_map.mp hl
    exact (cut_ok (hall m hm)).1] at t1
  have f0 := toldS_flat (told_flat 36 0 ls)
  have f1 : D.flat 40 (.tup [toldS, .tup []]) = true := rfl
  have q0 := eqv_self f0
  have q1 := eqv_self f1
  unfold toldS at f0 f1 q0 q1 t0 t1
  simp only [X12, G, hdS, tlS, r1, r2, r3, r4, r5, r6, r7, r8, r9, r10, r11, r12, r13, b_law, ev_cst, ev_var, ev_take, ev_fz, ev_glb, ev_tup, ev_lst, ev_bin, ev_neg, ev_not, ev_and, ev_or, ev_ite, ev_cmp, ev_cmp2, ev_idx, ev_slc, ev_call, ev_callv, ev_bi, ev_biP, ev_mt, ev_mtP, ev_isi, evs_nil, evs_cons, evo_non, evo_som, evi_of, evi_rg1, evi_rg2, evi_enum, evi_zip, xs_pass, xs_asg, xs_own, xs_asgT, xs_ite, xs_ret, xs_retN, xs_expr, xs_raise, xs_app, xs_tr, xss_nil, xss_cons, bi_len_s, bi_len_t, bi_len_l, bi_len_c, bi_abs_i, bi_int_i, bi_tup_t, bi_tup_l, bi_lst_t, bi_lst_l, bi_all_l, bi_any_l, op_add_i, op_sub_i, op_mul_i, op_div_i, op_mod_i, op_add_s, cm_lt_i, cm_le_i, cm_gt_i, cm_ge_i, ci_lt_i, ci_le_i, cm_eq, cm_ne, cm_in, cm_nin, cm_is, cm_isn, is_nn, is_bn, is_in, is_sn, is_tn, is_bb, tr_non, tr_bl, tr_int, tr_str, tr_tup, tr_lst, ty_s, ix_t, ix_l, ix_c, ix_s, it_t, it_l, it_s, it_c, put_nm, put_2, put_3, lim_0, lim_1, lim_2, lim_3, lim_4, lim_5, lim_9, if_true, rbind_ok, rbind_ex, out_ok, out_ex, then_nx, then_rt, then_ex, of_some, frz_val, frz_own, cr_nx, cr_rt, cr_ex, get_zero, get_succ, Env.put, Option.map_some, Option.map_none, Option.bind_some, startE, List.map_cons, List.map_nil, List.length_cons, List.length_nil, List.cons_append, List.nil_append, List.replicate_succ, List.replicate_zero, List.set_cons_zero, List.set_cons_succ, Nat.reduceAdd, Nat.reduceSub, Nat.zero_add, t0, t1, f0, f1, q0, q1, Bool.and_self, Bool.not_true]
theorem end_ok {ls : List (List Nat)} (h : okL ls) (h9 : ∀ l ∈ ls, 10 ∉ l ∧ l.length ≤ 900) (hall : ∀ l ∈ ls, (pl l).all okc = true) {e0 e2 e3 y6 : Option Cell} :
    XX12 r7 [e0, some (.val (.lst (ls.map .str))), e2, e3, some (.val (.str (src ls []))), some (.val .non), y6, none, none, none, none, none, none, none, none] = .rt (.val (.bl true)) := by
  have s7 : X12 (hdS r7) [e0, some (.val (.lst (ls.map .str))), e2, e3, some (.val (.str (src ls []))), some (.val .non), y6, none, none, none, none, none, none, none, none] = .nx [e0, some (.val (.lst (ls.map .str))), e2, e3, some (.val (.str (src ls []))), some (.val .non), y6, none, none, none, none, none, none, none, none] := by
    simp only [X12, G, hdS, tlS, r1, r2, r3, r4, r5, r6, r7, b_law, ev_cst, ev_var, ev_take, ev_fz, ev_glb, ev_tup, ev_lst, ev_bin, ev_neg, ev_not, ev_and, ev_or, ev_ite, ev_cmp, ev_cmp2, ev_idx, ev_slc, ev_call, ev_callv, ev_bi, ev_biP, ev_mt, ev_mtP, ev_isi, evs_nil, evs_cons, evo_non, evo_som, evi_of, evi_rg1, evi_rg2, evi_enum, evi_zip, xs_pass, xs_asg, xs_own, xs_asgT, xs_ite, xs_ret, xs_retN, xs_expr, xs_raise, xs_app, xs_tr, xss_nil, xss_cons, bi_len_s, bi_len_t, bi_len_l, bi_len_c, bi_abs_i, bi_int_i, bi_tup_t, bi_tup_l, bi_lst_t, bi_lst_l, bi_all_l, bi_any_l, op_add_i, op_sub_i, op_mul_i, op_div_i, op_mod_i, op_add_s, cm_lt_i, cm_le_i, cm_gt_i, cm_ge_i, ci_lt_i, ci_le_i, cm_eq, cm_ne, cm_in, cm_nin, cm_is, cm_isn, is_nn, is_bn, is_in, is_sn, is_tn, is_bb, tr_non, tr_bl, tr_int, tr_str, tr_tup, tr_lst, ty_s, ix_t, ix_l, ix_c, ix_s, it_t, it_l, it_s, it_c, put_nm, put_2, put_3, lim_0, lim_1, lim_2, lim_3, lim_4, lim_5, lim_9, if_true, rbind_ok, rbind_ex, out_ok, out_ex, then_nx, then_rt, then_ex, of_some, frz_val, frz_own, cr_nx, cr_rt, cr_ex, get_zero, get_succ, Env.put, Option.map_some, Option.map_none, Option.bind_some, startE, List.map_cons, List.map_nil, List.length_cons, List.length_nil, List.cons_append, List.nil_append, List.replicate_succ, List.replicate_zero, List.set_cons_zero, List.set_cons_succ, Nat.reduceAdd, Nat.reduceSub, Nat.zero_add, Bool.not_true]
  have s8 : X12 (hdS r8) [e0, some (.val (.lst (ls.map .str))), e2, e3, some (.val (.str (src ls []))), some (.val .non), y6, none, none, none, none, none, none, none, none] = .nx [e0, some (.val (.lst (ls.map .str))), e2, e3, some (.val (.str (src ls []))), some (.val .non), y6, some (.own []), none, none, none, none, none, none, none] := by
    simp only [X12, G, hdS, tlS, r1, r2, r3, r4, r5, r6, r7, r8, b_law, ev_cst, ev_var, ev_take, ev_fz, ev_glb, ev_tup, ev_lst, ev_bin, ev_neg, ev_not, ev_and, ev_or, ev_ite, ev_cmp, ev_cmp2, ev_idx, ev_slc, ev_call, ev_callv, ev_bi, ev_biP, ev_mt, ev_mtP, ev_isi, evs_nil, evs_cons, evo_non, evo_som, evi_of, evi_rg1, evi_rg2, evi_enum, evi_zip, xs_pass, xs_asg, xs_own, xs_asgT, xs_ite, xs_ret, xs_retN, xs_expr, xs_raise, xs_app, xs_tr, xss_nil, xss_cons, bi_len_s, bi_len_t, bi_len_l, bi_len_c, bi_abs_i, bi_int_i, bi_tup_t, bi_tup_l, bi_lst_t, bi_lst_l, bi_all_l, bi_any_l, op_add_i, op_sub_i, op_mul_i, op_div_i, op_mod_i, op_add_s, cm_lt_i, cm_le_i, cm_gt_i, cm_ge_i, ci_lt_i, ci_le_i, cm_eq, cm_ne, cm_in, cm_nin, cm_is, cm_isn, is_nn, is_bn, is_in, is_sn, is_tn, is_bb, tr_non, tr_bl, tr_int, tr_str, tr_tup, tr_lst, ty_s, ix_t, ix_l, ix_c, ix_s, it_t, it_l, it_s, it_c, put_nm, put_2, put_3, lim_0, lim_1, lim_2, lim_3, lim_4, lim_5, lim_9, if_true, rbind_ok, rbind_ex, out_ok, out_ex, then_nx, then_rt, then_ex, of_some, frz_val, frz_own, cr_nx, cr_rt, cr_ex, get_zero, get_succ, Env.put, Option.map_some, Option.map_none, Option.bind_some, startE, List.map_cons, List.map_nil, List.length_cons, List.length_nil, List.cons_append, List.nil_append, List.replicate_succ, List.replicate_zero, List.set_cons_zero, List.set_cons_succ, Nat.reduceAdd, Nat.reduceSub, Nat.zero_add]
  have s9 : X12 (hdS r9) [e0, some (.val (.lst (ls.map .str))), e2, e3, some (.val (.str (src ls []))), some (.val .non), y6, some (.own []), none, none, none, none, none, none, none] = .nx [e0, some (.val (.lst (ls.map .str))), e2, e3, some (.val (.str (src ls []))), some (.val .non), y6, some (.own []), some (.own []), none, none, none, none, none, none] := by
    simp only [X12, G, hdS, tlS, r1, r2, r3, r4, r5, r6, r7, r8, r9, b_law, ev_cst, ev_var, ev_take, ev_fz, ev_glb, ev_tup, ev_lst, ev_bin, ev_neg, ev_not, ev_and, ev_or, ev_ite, ev_cmp, ev_cmp2, ev_idx, ev_slc, ev_call, ev_callv, ev_bi, ev_biP, ev_mt, ev_mtP, ev_isi, evs_nil, evs_cons, evo_non, evo_som, evi_of, evi_rg1, evi_rg2, evi_enum, evi_zip, xs_pass, xs_asg, xs_own, xs_asgT, xs_ite, xs_ret, xs_retN, xs_expr, xs_raise, xs_app, xs_tr, xss_nil, xss_cons, bi_len_s, bi_len_t, bi_len_l, bi_len_c, bi_abs_i, bi_int_i, bi_tup_t, bi_tup_l, bi_lst_t, bi_lst_l, bi_all_l, bi_any_l, op_add_i, op_sub_i, op_mul_i, op_div_i, op_mod_i, op_add_s, cm_lt_i, cm_le_i, cm_gt_i, cm_ge_i, ci_lt_i, ci_le_i, cm_eq, cm_ne, cm_in, cm_nin, cm_is, cm_isn, is_nn, is_bn, is_in, is_sn, is_tn, is_bb, tr_non, tr_bl, tr_int, tr_str, tr_tup, tr_lst, ty_s, ix_t, ix_l, ix_c, ix_s, it_t, it_l, it_s, it_c, put_nm, put_2, put_3, lim_0, lim_1, lim_2, lim_3, lim_4, lim_5, lim_9, if_true, rbind_ok, rbind_ex, out_ok, out_ex, then_nx, then_rt, then_ex, of_some, frz_val, frz_own, cr_nx, cr_rt, cr_ex, get_zero, get_succ, Env.put, Option.map_some, Option.map_none, Option.bind_some, startE, List.map_cons, List.map_nil, List.length_cons, List.length_nil, List.cons_append, List.nil_append, List.replicate_succ, List.replicate_zero, List.set_cons_zero, List.set_cons_succ, Nat.reduceAdd, Nat.reduceSub, Nat.zero_add]
  have s10 : X12 (hdS r10) [e0, some (.val (.lst (ls.map .str))), e2, e3, some (.val (.str (src ls []))), some (.val .non), y6, some (.own []), some (.own []), none, none, none, none, none, none] = .nx [e0, some (.val (.lst (ls.map .str))), e2, e3, some (.val (.str (src ls []))), some (.val .non), y6, some (.own []), some (.own []), some (.val (.str [])), none, none, none, none, none] := by
    simp only [X12, G, hdS, tlS, r1, r2, r3, r4, r5, r6, r7, r8, r9, r10, b_law, ev_cst, ev_var, ev_take, ev_fz, ev_glb, ev_tup, ev_lst, ev_bin, ev_neg, ev_not, ev_and, ev_or, ev_ite, ev_cmp, ev_cmp2, ev_idx, ev_slc, ev_call, ev_callv, ev_bi, ev_biP, ev_mt, ev_mtP, ev_isi, evs_nil, evs_cons, evo_non, evo_som, evi_of, evi_rg1, evi_rg2, evi_enum, evi_zip, xs_pass, xs_asg, xs_own, xs_asgT, xs_ite, xs_ret, xs_retN, xs_expr, xs_raise, xs_app, xs_tr, xss_nil, xss_cons, bi_len_s, bi_len_t, bi_len_l, bi_len_c, bi_abs_i, bi_int_i, bi_tup_t, bi_tup_l, bi_lst_t, bi_lst_l, bi_all_l, bi_any_l, op_add_i, op_sub_i, op_mul_i, op_div_i, op_mod_i, op_add_s, cm_lt_i, cm_le_i, cm_gt_i, cm_ge_i, ci_lt_i, ci_le_i, cm_eq, cm_ne, cm_in, cm_nin, cm_is, cm_isn, is_nn, is_bn, is_in, is_sn, is_tn, is_bb, tr_non, tr_bl, tr_int, tr_str, tr_tup, tr_lst, ty_s, ix_t, ix_l, ix_c, ix_s, it_t, it_l, it_s, it_c, put_nm, put_2, put_3, lim_0, lim_1, lim_2, lim_3, lim_4, lim_5, lim_9, if_true, rbind_ok, rbind_ex, out_ok, out_ex, then_nx, then_rt, then_ex, of_some, frz_val, frz_own, cr_nx, cr_rt, cr_ex, get_zero, get_succ, Env.put, Option.map_some, Option.map_none, Option.bind_some, startE, List.map_cons, List.map_nil, List.length_cons, List.length_nil, List.cons_append, List.nil_append, List.replicate_succ, List.replicate_zero, List.set_cons_zero, List.set_cons_succ, Nat.reduceAdd, Nat.reduceSub, Nat.zero_add]
  have hl := h.1
  obtain ⟨z6, z13, lp⟩ := loop_11 (x0 := e0) (x2 := e2) (x3 := e3) (x4 := some (.val (.str (src ls [])))) (x5 := some (.val .non)) (x10 := none) (x11 := none) (x12 := none) [none] h9 hall ls.length 0 (A := []) (B := []) (c := []) (x6 := y6) (x13 := none) (by omega) (by simp; omega) (by simp; omega) (by simp; omega)
  simp only [List.drop_zero, List.nil_append] at lp
  have s11 : X12 (hdS r11) [e0, some (.val (.lst (ls.map .str))), e2, e3, some (.val (.str (src ls []))), some (.val .non), y6, some (.own []), some (.own []), some (.val (.str [])), none, none, none, none, none] =
      .nx [e0, some (.val (.lst (ls.map .str))), e2, e3, some (.val (.str (src ls []))), some (.val .non), z6, some (.own (told 0 ls)), some (.own (noted 0 ls)), some (.val (.str (src (ls.map cutR) []))), none, none, none, z13, none] := by
    have hB : hdS r11 = .loop (.nm 6) (.rg1 (.bi .len (.cons (.var 1) .nil))) body11 := rfl
    show xs (G 12) md.T.xi md.sb (hdS r11) _ = _
    rw [hB, xs_loop, evi_len (ds := ls.map .str) (by rfl) (by simpa using hl), out_ok, rangeL_eq, List.length_map]
    exact lp
  refine (run_s (B := r7) (s := hdS r7) (r := r8) rfl s7).trans ?_
  refine (run_s (B := r8) (s := hdS r8) (r := r9) rfl s8).trans ?_
  refine (run_s (B := r9) (s := hdS r9) (r := r10) rfl s9).trans ?_
  refine (run_s (B := r10) (s := hdS r10) (r := r11) rfl s10).trans ?_
  refine (run_s (B := r11) (s := hdS r11) (r := r12) rfl s11).trans ?_
  refine (run_s (B := r12) (s := hdS r12) (r := r13) rfl (st12_ok h hall)).trans ?_
  refine (run_s (B := r13) (s := hdS r13) (r := r14) rfl (st13_ok h hall)).trans ?_
  exact tail_ok ..
end K79

set_option Elab.async false
set_option linter.all false
set_option maxRecDepth 100000
set_option maxHeartbeats 0
namespace K79
open Bw PySem PySem.Spec PyProof.Rows L2
theorem evi_rgm {Γ : Str → List D → CR} {ρ : Bw.Env} {e : E} {i : Int} (h : ev Γ e ρ = .ok (.val (.int i)) ρ) (h0 : 0 ≤ i ∧ i ≤ 100000) : evi Γ (.rg1 e) ρ = .ok (rangeL 0 i.toNat) ρ := by
  have hs : small62 i = true := small62_of h0
  have q : evi Γ (.rg1 e) ρ = if small62 i then .ok (rangeL 0 i.toNat) ρ else .no := by
    rw [evi_rg1, h, rbind_ok]
    rfl
  rw [hs] at q
  exact q
/-- everything behind the drawn numbers -/
theorem lines_ok {ls : List (List Nat)} (hn : ls.length ≤ 9) (hg : ∀ l ∈ ls, gd 200 l) {ns : List Int} {v1 : Int} (hv : Lv md.T md.sb md.F 12 "_law_number" [.scr ns, .int 1] = .ok (.val (.int v1))) :
    XX12 r1 [some (.val (.scr ns)), some (.val (.lst (ls.map .str))), none, none, none, none, none, none, none, none, none, none, none, none, none] = .rt (.val (.bl true)) := by
  have h9 : ∀ l ∈ ls, 10 ∉ l ∧ l.length ≤ 900 := fun l hl => ⟨(hg l hl).2, by have := (hg l hl).1; omega⟩
  have hok : okL ls := ⟨by omega, fun l hl => ⟨(h9 l hl).1, by have := (h9 l hl).2; omega⟩⟩
  -- the lines
  obtain ⟨y2, hy2, lp1⟩ := loop_1 (some (.val (.scr ns))) (some (.val (.lst (ls.map .str)))) [none, none, none, none, none, none, none, none, none, none, none, none] (ls := ls) (x2 := none) h9 (fun ds e => by cases e)
  have s1 : X12 (hdS r1) [some (.val (.scr ns)), some (.val (.lst (ls.map .str))), none, none, none, none, none, none, none, none, none, none, none, none, none] = .nx [some (.val (.scr ns)), some (.val (.lst (ls.map .str))), y2, none, none, none, none, none, none, none, none, none, none, none, none] := by
    have hB : hdS r1 = .loop (.nm 2) (.of (.var 1)) body1 := rfl
    have hev : evi (G 12) (.of (.var 1)) [some (.val (.scr ns)), some (.val (.lst (ls.map .str))), none, none, none, none, none, none, none, none, none, none, none, none, none] = .ok (ls.map .str) [some (.val (.scr ns)), some (.val (.lst (ls.map .str))), none, none, none, none, none, none, none, none, none, none, none, none, none] := by simp only [ev_cst, ev_var, ev_take, ev_fz, ev_glb, ev_tup, ev_lst, ev_bin, ev_neg, ev_not, ev_and, ev_or, ev_ite, ev_cmp, ev_cmp2, ev_idx, ev_slc, ev_call, ev_callv, ev_bi, ev_biP, ev_mt, ev_mtP, ev_isi, evs_nil, evs_cons, evo_non, evo_som, evi_of, evi_rg1, evi_rg2, evi_enum, evi_zip, xs_pass, xs_asg, xs_own, xs_asgT, xs_ite, xs_ret, xs_retN, xs_expr, xs_raise, xs_app, xs_tr, xss_nil, xss_cons, bi_len_s, bi_len_t, bi_len_l, bi_len_c, bi_abs_i, bi_int_i, bi_tup_t, bi_tup_l, bi_lst_t, bi_lst_l, bi_all_l, bi_any_l, op_add_i, op_sub_i, op_mul_i, op_div_i, op_mod_i, op_add_s, cm_lt_i, cm_le_i, cm_gt_i, cm_ge_i, ci_lt_i, ci_le_i, cm_eq, cm_ne, cm_in, cm_nin, cm_is, cm_isn, is_nn, is_bn, is_in, is_sn, is_tn, is_bb, tr_non, tr_bl, tr_int, tr_str, tr_tup, tr_lst, ty_s, ix_t, ix_l, ix_c, ix_s, it_t, it_l, it_s, it_c, put_nm, put_2, put_3, lim_0, lim_1, lim_2, lim_3, lim_4, lim_5, lim_9, if_true, rbind_ok, rbind_ex, out_ok, out_ex, then_nx, then_rt, then_ex, of_some, frz_val, frz_own, cr_nx, cr_rt, cr_ex, get_zero, get_succ, Env.put, Option.map_some, Option.map_none, Option.bind_some, startE, List.map_cons, List.map_nil, List.length_cons, List.length_nil, List.cons_append, List.nil_append, List.replicate_succ, List.replicate_zero, List.set_cons_zero, List.set_cons_succ, Nat.reduceAdd, Nat.reduceSub, Nat.zero_add]
    show xs (G 12) md.T.xi md.sb (hdS r1) _ = _
    rw [hB, xs_loop, hev, out_ok]
    exact lp1
  -- closed
  have p4 : (0 : Int) < 4 := by omega
  have s2 : X12 (hdS r2) [some (.val (.scr ns)), some (.val (.lst (ls.map .str))), y2, none, none, none, none, none, none, none, none, none, none, none, none] = .nx [some (.val (.scr ns)), some (.val (.lst (ls.map .str))), y2, some (.val (.bl (decide (0 < v1 % 4)))), none, none, none, none, none, none, none, none, none, none, none] := by
    simp only [X12, G, hdS, tlS, r1, r2, b_law, ev_cst, ev_var, ev_take, ev_fz, ev_glb, ev_tup, ev_lst, ev_bin, ev_neg, ev_not, ev_and, ev_or, ev_ite, ev_cmp, ev_cmp2, ev_idx, ev_slc, ev_call, ev_callv, ev_bi, ev_biP, ev_mt, ev_mtP, ev_isi, evs_nil, evs_cons, evo_non, evo_som, evi_of, evi_rg1, evi_rg2, evi_enum, evi_zip, xs_pass, xs_asg, xs_own, xs_asgT, xs_ite, xs_ret, xs_retN, xs_expr, xs_raise, xs_app, xs_tr, xss_nil, xss_cons, bi_len_s, bi_len_t, bi_len_l, bi_len_c, bi_abs_i, bi_int_i, bi_tup_t, bi_tup_l, bi_lst_t, bi_lst_l, bi_all_l, bi_any_l, op_add_i, op_sub_i, op_mul_i, op_div_i, op_mod_i, op_add_s, cm_lt_i, cm_le_i, cm_gt_i, cm_ge_i, ci_lt_i, ci_le_i, cm_eq, cm_ne, cm_in, cm_nin, cm_is, cm_isn, is_nn, is_bn, is_in, is_sn, is_tn, is_bb, tr_non, tr_bl, tr_int, tr_str, tr_tup, tr_lst, ty_s, ix_t, ix_l, ix_c, ix_s, it_t, it_l, it_s, it_c, put_nm, put_2, put_3, lim_0, lim_1, lim_2, lim_3, lim_4, lim_5, lim_9, if_true, rbind_ok, rbind_ex, out_ok, out_ex, then_nx, then_rt, then_ex, of_some, frz_val, frz_own, cr_nx, cr_rt, cr_ex, get_zero, get_succ, Env.put, Option.map_some, Option.map_none, Option.bind_some, startE, List.map_cons, List.map_nil, List.length_cons, List.length_nil, List.cons_append, List.nil_append, List.replicate_succ, List.replicate_zero, List.set_cons_zero, List.set_cons_succ, Nat.reduceAdd, Nat.reduceSub, Nat.zero_add, hv, p4]
  generalize decide (0 < v1 % 4) = b at s2
  -- the source
  have hcm := comp_ok (Γ := Lv md.T md.sb md.F 12) (i := 2) (e := .bin .add (.var 2) (.cst (.str [10]))) (it := .of (.var 1)) (u := .str) (h := fun l => .str (l ++ [10])) (l := ls)
    (ρ0 := [some (.val (.scr ns)), some (.val (.lst (ls.map .str))), y2, some (.val (.bl b)), none, none, none, none, none, none, none, none, none, none, none]) (ρ := [some (.val (.scr ns)), some (.val (.lst (ls.map .str))), y2, some (.val (.bl b)), none, none, none, none, none, none, none, none, none, none, none]) (by simp only [ev_cst, ev_var, ev_take, ev_fz, ev_glb, ev_tup, ev_lst, ev_bin, ev_neg, ev_not, ev_and, ev_or, ev_ite, ev_cmp, ev_cmp2, ev_idx, ev_slc, ev_call, ev_callv, ev_bi, ev_biP, ev_mt, ev_mtP, ev_isi, evs_nil, evs_cons, evo_non, evo_som, evi_of, evi_rg1, evi_rg2, evi_enum, evi_zip, xs_pass, xs_asg, xs_own, xs_asgT, xs_ite, xs_ret, xs_retN, xs_expr, xs_raise, xs_app, xs_tr, xss_nil, xss_cons, bi_len_s, bi_len_t, bi_len_l, bi_len_c, bi_abs_i, bi_int_i, bi_tup_t, bi_tup_l, bi_lst_t, bi_lst_l, bi_all_l, bi_any_l, op_add_i, op_sub_i, op_mul_i, op_div_i, op_mod_i, op_add_s, cm_lt_i, cm_le_i, cm_gt_i, cm_ge_i, ci_lt_i, ci_le_i, cm_eq, cm_ne, cm_in, cm_nin, cm_is, cm_isn, is_nn, is_bn, is_in, is_sn, is_tn, is_bb, tr_non, tr_bl, tr_int, tr_str, tr_tup, tr_lst, ty_s, ix_t, ix_l, ix_c, ix_s, it_t, it_l, it_s, it_c, put_nm, put_2, put_3, lim_0, lim_1, lim_2, lim_3, lim_4, lim_5, lim_9, if_true, rbind_ok, rbind_ex, out_ok, out_ex, then_nx, then_rt, then_ex, of_some, frz_val, frz_own, cr_nx, cr_rt, cr_ex, get_zero, get_succ, Env.put, Option.map_some, Option.map_none, Option.bind_some, startE, List.map_cons, List.map_nil, List.length_cons, List.length_nil, List.cons_append, List.nil_append, List.replicate_succ, List.replicate_zero, List.set_cons_zero, List.set_cons_succ, Nat.reduceAdd, Nat.reduceSub, Nat.zero_add]) (free1 (by simpa only [ev_cst, ev_var, ev_take, ev_fz, ev_glb, ev_tup, ev_lst, ev_bin, ev_neg, ev_not, ev_and, ev_or, ev_ite, ev_cmp, ev_cmp2, ev_idx, ev_slc, ev_call, ev_callv, ev_bi, ev_biP, ev_mt, ev_mtP, ev_isi, evs_nil, evs_cons, evo_non, evo_som, evi_of, evi_rg1, evi_rg2, evi_enum, evi_zip, xs_pass, xs_asg, xs_own, xs_asgT, xs_ite, xs_ret, xs_retN, xs_expr, xs_raise, xs_app, xs_tr, xss_nil, xss_cons, bi_len_s, bi_len_t, bi_len_l, bi_len_c, bi_abs_i, bi_int_i, bi_tup_t, bi_tup_l, bi_lst_t, bi_lst_l, bi_all_l, bi_any_l, op_add_i, op_sub_i, op_mul_i, op_div_i, op_mod_i, op_add_s, cm_lt_i, cm_le_i, cm_gt_i, cm_ge_i, ci_lt_i, ci_le_i, cm_eq, cm_ne, cm_in, cm_nin, cm_is, cm_isn, is_nn, is_bn, is_in, is_sn, is_tn, is_bb, tr_non, tr_bl, tr_int, tr_str, tr_tup, tr_lst, ty_s, ix_t, ix_l, ix_c, ix_s, it_t, it_l, it_s, it_c, put_nm, put_2, put_3, lim_0, lim_1, lim_2, lim_3, lim_4, lim_5, lim_9, if_true, rbind_ok, rbind_ex, out_ok, out_ex, then_nx, then_rt, then_ex, of_some, frz_val, frz_own, cr_nx, cr_rt, cr_ex, get_zero, get_succ, Env.put, Option.map_some, Option.map_none, Option.bind_some, startE, List.map_cons, List.map_nil, List.length_cons, List.length_nil, List.cons_append, List.nil_append, List.replicate_succ, List.replicate_zero, List.set_cons_zero, List.set_cons_succ, Nat.reduceAdd, Nat.reduceSub, Nat.zero_add] using hy2)) (by simp only [LIM]; omega) (fun l hl => ⟨.val (.str (l ++ [10])), by
      have e1 : l.length + 1 ≤ LIM := by have := (h9 l hl).2; simp only [LIM]; omega
      simp only [ev_cst, ev_var, ev_take, ev_fz, ev_glb, ev_tup, ev_lst, ev_bin, ev_neg, ev_not, ev_and, ev_or, ev_ite, ev_cmp, ev_cmp2, ev_idx, ev_slc, ev_call, ev_callv, ev_bi, ev_biP, ev_mt, ev_mtP, ev_isi, evs_nil, evs_cons, evo_non, evo_som, evi_of, evi_rg1, evi_rg2, evi_enum, evi_zip, xs_pass, xs_asg, xs_own, xs_asgT, xs_ite, xs_ret, xs_retN, xs_expr, xs_raise, xs_app, xs_tr, xss_nil, xss_cons, bi_len_s, bi_len_t, bi_len_l, bi_len_c, bi_abs_i, bi_int_i, bi_tup_t, bi_tup_l, bi_lst_t, bi_lst_l, bi_all_l, bi_any_l, op_add_i, op_sub_i, op_mul_i, op_div_i, op_mod_i, op_add_s, cm_lt_i, cm_le_i, cm_gt_i, cm_ge_i, ci_lt_i, ci_le_i, cm_eq, cm_ne, cm_in, cm_nin, cm_is, cm_isn, is_nn, is_bn, is_in, is_sn, is_tn, is_bb, tr_non, tr_bl, tr_int, tr_str, tr_tup, tr_lst, ty_s, ix_t, ix_l, ix_c, ix_s, it_t, it_l, it_s, it_c, put_nm, put_2, put_3, lim_0, lim_1, lim_2, lim_3, lim_4, lim_5, lim_9, if_true, rbind_ok, rbind_ex, out_ok, out_ex, then_nx, then_rt, then_ex, of_some, frz_val, frz_own, cr_nx, cr_rt, cr_ex, get_zero, get_succ, Env.put, Option.map_some, Option.map_none, Option.bind_some, startE, List.map_cons, List.map_nil, List.length_cons, List.length_nil, List.cons_append, List.nil_append, List.replicate_succ, List.replicate_zero, List.set_cons_zero, List.set_cons_succ, Nat.reduceAdd, Nat.reduceSub, Nat.zero_add, e1], rfl⟩)
  have hj : Mt.run .join (.str []) [.lst (ls.map fun l => D.str (l ++ [10]))] = some (.val (.str (src ls []))) := by
    have z := join_run ls (hok.len (by simp))
    rw [List.map_map] at z
    exact z
  have s3 : X12 (hdS r3) [some (.val (.scr ns)), some (.val (.lst (ls.map .str))), y2, some (.val (.bl b)), none, none, none, none, none, none, none, none, none, none, none] = .nx [some (.val (.scr ns)), some (.val (.lst (ls.map .str))), y2, some (.val (.bl b)), some (.val (.str (src ls []))), none, none, none, none, none, none, none, none, none, none] := by
    simp only [X12, G, hdS, tlS, r1, r2, r3, b_law, ev_cst, ev_var, ev_take, ev_fz, ev_glb, ev_tup, ev_lst, ev_bin, ev_neg, ev_not, ev_and, ev_or, ev_ite, ev_cmp, ev_cmp2, ev_idx, ev_slc, ev_call, ev_callv, ev_bi, ev_biP, ev_mt, ev_mtP, ev_isi, evs_nil, evs_cons, evo_non, evo_som, evi_of, evi_rg1, evi_rg2, evi_enum, evi_zip, xs_pass, xs_asg, xs_own, xs_asgT, xs_ite, xs_ret, xs_retN, xs_expr, xs_raise, xs_app, xs_tr, xss_nil, xss_cons, bi_len_s, bi_len_t, bi_len_l, bi_len_c, bi_abs_i, bi_int_i, bi_tup_t, bi_tup_l, bi_lst_t, bi_lst_l, bi_all_l, bi_any_l, op_add_i, op_sub_i, op_mul_i, op_div_i, op_mod_i, op_add_s, cm_lt_i, cm_le_i, cm_gt_i, cm_ge_i, ci_lt_i, ci_le_i, cm_eq, cm_ne, cm_in, cm_nin, cm_is, cm_isn, is_nn, is_bn, is_in, is_sn, is_tn, is_bb, tr_non, tr_bl, tr_int, tr_str, tr_tup, tr_lst, ty_s, ix_t, ix_l, ix_c, ix_s, it_t, it_l, it_s, it_c, put_nm, put_2, put_3, lim_0, lim_1, lim_2, lim_3, lim_4, lim_5, lim_9, if_true, rbind_ok, rbind_ex, out_ok, out_ex, then_nx, then_rt, then_ex, of_some, frz_val, frz_own, cr_nx, cr_rt, cr_ex, get_zero, get_succ, Env.put, Option.map_some, Option.map_none, Option.bind_some, startE, List.map_cons, List.map_nil, List.length_cons, List.length_nil, List.cons_append, List.nil_append, List.replicate_succ, List.replicate_zero, List.set_cons_zero, List.set_cons_succ, Nat.reduceAdd, Nat.reduceSub, Nat.zero_add, hcm, hj]
  have s4 : X12 (hdS r4) [some (.val (.scr ns)), some (.val (.lst (ls.map .str))), y2, some (.val (.bl b)), some (.val (.str (src ls []))), none, none, none, none, none, none, none, none, none, none] = .nx [some (.val (.scr ns)), some (.val (.lst (ls.map .str))), y2, some (.val (.bl b)), some (.val (.str (src ls []))), some (.val .non), none, none, none, none, none, none, none, none, none] := by
    simp only [X12, G, hdS, tlS, r1, r2, r3, r4, b_law, ev_cst, ev_var, ev_take, ev_fz, ev_glb, ev_tup, ev_lst, ev_bin, ev_neg, ev_not, ev_and, ev_or, ev_ite, ev_cmp, ev_cmp2, ev_idx, ev_slc, ev_call, ev_callv, ev_bi, ev_biP, ev_mt, ev_mtP, ev_isi, evs_nil, evs_cons, evo_non, evo_som, evi_of, evi_rg1, evi_rg2, evi_enum, evi_zip, xs_pass, xs_asg, xs_own, xs_asgT, xs_ite, xs_ret, xs_retN, xs_expr, xs_raise, xs_app, xs_tr, xss_nil, xss_cons, bi_len_s, bi_len_t, bi_len_l, bi_len_c, bi_abs_i, bi_int_i, bi_tup_t, bi_tup_l, bi_lst_t, bi_lst_l, bi_all_l, bi_any_l, op_add_i, op_sub_i, op_mul_i, op_div_i, op_mod_i, op_add_s, cm_lt_i, cm_le_i, cm_gt_i, cm_ge_i, ci_lt_i, ci_le_i, cm_eq, cm_ne, cm_in, cm_nin, cm_is, cm_isn, is_nn, is_bn, is_in, is_sn, is_tn, is_bb, tr_non, tr_bl, tr_int, tr_str, tr_tup, tr_lst, ty_s, ix_t, ix_l, ix_c, ix_s, it_t, it_l, it_s, it_c, put_nm, put_2, put_3, lim_0, lim_1, lim_2, lim_3, lim_4, lim_5, lim_9, if_true, rbind_ok, rbind_ex, out_ok, out_ex, then_nx, then_rt, then_ex, of_some, frz_val, frz_own, cr_nx, cr_rt, cr_ex, get_zero, get_succ, Env.put, Option.map_some, Option.map_none, Option.bind_some, startE, List.map_cons, List.map_nil, List.length_cons, List.length_nil, List.cons_append, List.nil_append, List.replicate_succ, List.replicate_zero, List.set_cons_zero, List.set_cons_succ, Nat.reduceAdd, Nat.reduceSub, Nat.zero_add]
  -- the fault
  obtain ⟨y6, hy6, lp5⟩ := loop_5 (x0 := some (.val (.scr ns))) (x2 := y2) (x3 := some (.val (.bl b))) (x4 := some (.val (.str (src ls [])))) [none, none, none, none, none, none, none, none] h9 ls.length 0 (f := none) (x6 := none) (by omega) (fun ds e => by cases e)
  simp only [List.drop_zero, faultD] at lp5
  have s5 : X12 (hdS r5) [some (.val (.scr ns)), some (.val (.lst (ls.map .str))), y2, some (.val (.bl b)), some (.val (.str (src ls []))), some (.val .non), none, none, none, none, none, none, none, none, none] = .nx [some (.val (.scr ns)), some (.val (.lst (ls.map .str))), y2, some (.val (.bl b)), some (.val (.str (src ls []))), some (.val (faultD (flt 0 ls))), y6, none, none, none, none, none, none, none, none] := by
    have hB : hdS r5 = .loop (.nm 6) (.rg1 (.bi .len (.cons (.var 1) .nil))) body5 := rfl
    show xs (G 12) md.T.xi md.sb (hdS r5) _ = _
    rw [hB, xs_loop, evi_len (ds := ls.map .str) (by rfl) (by simp; omega), out_ok, rangeL_eq, List.length_map]
    exact lp5
  have htl : ∀ b, src ls [] ++ tail_ b = src ls (tail_ b) := fun b => (src_app ls (tail_ b)).symm
  have hlen : (src ls []).length + 4 ≤ LIM := by have := hok.len (t := []) (by simp); simp only [LIM]; omega
  have s6 : X12 (hdS r6) [some (.val (.scr ns)), some (.val (.lst (ls.map .str))), y2, some (.val (.bl b)), some (.val (.str (src ls []))), some (.val (faultD (flt 0 ls))), y6, none, none, none, none, none, none, none, none] = .nx [some (.val (.scr ns)), some (.val (.lst (ls.map .str))), y2, some (.val (.bl b)), some (.val (.str (src ls (tail_ b)))), some (.val (faultD (flt2 b ls))), y6, none, none, none, none, none, none, none, none] := by
    rw [← htl b]
    unfold flt2
    cases b with
    | true =>
      cases hf : flt 0 ls with
      | none => simp only [X12, G, hdS, tlS, r1, r2, r3, r4, r5, r6, b_law, faultD, orF, tail_, ev_cst, ev_var, ev_take, ev_fz, ev_glb, ev_tup, ev_lst, ev_bin, ev_neg, ev_not, ev_and, ev_or, ev_ite, ev_cmp, ev_cmp2, ev_idx, ev_slc, ev_call, ev_callv, ev_bi, ev_biP, ev_mt, ev_mtP, ev_isi, evs_nil, evs_cons, evo_non, evo_som, evi_of, evi_rg1, evi_rg2, evi_enum, evi_zip, xs_pass, xs_asg, xs_own, xs_asgT, xs_ite, xs_ret, xs_retN, xs_expr, xs_raise, xs_app, xs_tr, xss_nil, xss_cons, bi_len_s, bi_len_t, bi_len_l, bi_len_c, bi_abs_i, bi_int_i, bi_tup_t, bi_tup_l, bi_lst_t, bi_lst_l, bi_all_l, bi_any_l, op_add_i, op_sub_i, op_mul_i, op_div_i, op_mod_i, op_add_s, cm_lt_i, cm_le_i, cm_gt_i, cm_ge_i, ci_lt_i, ci_le_i, cm_eq, cm_ne, cm_in, cm_nin, cm_is, cm_isn, is_nn, is_bn, is_in, is_sn, is_tn, is_bb, tr_non, tr_bl, tr_int, tr_str, tr_tup, tr_lst, ty_s, ix_t, ix_l, ix_c, ix_s, it_t, it_l, it_s, it_c, put_nm, put_2, put_3, lim_0, lim_1, lim_2, lim_3, lim_4, lim_5, lim_9, if_true, rbind_ok, rbind_ex, out_ok, out_ex, then_nx, then_rt, then_ex, of_some, frz_val, frz_own, cr_nx, cr_rt, cr_ex, get_zero, get_succ, Env.put, Option.map_some, Option.map_none, Option.bind_some, startE, List.map_cons, List.map_nil, List.length_cons, List.length_nil, List.cons_append, List.nil_append, List.replicate_succ, List.replicate_zero, List.set_cons_zero, List.set_cons_succ, Nat.reduceAdd, Nat.reduceSub, Nat.zero_add, Bool.not_true, List.append_nil]
      | some j => simp only [X12, G, hdS, tlS, r1, r2, r3, r4, r5, r6, b_law, faultD, orF, tail_, ev_cst, ev_var, ev_take, ev_fz, ev_glb, ev_tup, ev_lst, ev_bin, ev_neg, ev_not, ev_and, ev_or, ev_ite, ev_cmp, ev_cmp2, ev_idx, ev_slc, ev_call, ev_callv, ev_bi, ev_biP, ev_mt, ev_mtP, ev_isi, evs_nil, evs_cons, evo_non, evo_som, evi_of, evi_rg1, evi_rg2, evi_enum, evi_zip, xs_pass, xs_asg, xs_own, xs_asgT, xs_ite, xs_ret, xs_retN, xs_expr, xs_raise, xs_app, xs_tr, xss_nil, xss_cons, bi_len_s, bi_len_t, bi_len_l, bi_len_c, bi_abs_i, bi_int_i, bi_tup_t, bi_tup_l, bi_lst_t, bi_lst_l, bi_all_l, bi_any_l, op_add_i, op_sub_i, op_mul_i, op_div_i, op_mod_i, op_add_s, cm_lt_i, cm_le_i, cm_gt_i, cm_ge_i, ci_lt_i, ci_le_i, cm_eq, cm_ne, cm_in, cm_nin, cm_is, cm_isn, is_nn, is_bn, is_in, is_sn, is_tn, is_bb, tr_non, tr_bl, tr_int, tr_str, tr_tup, tr_lst, ty_s, ix_t, ix_l, ix_c, ix_s, it_t, it_l, it_s, it_c, put_nm, put_2, put_3, lim_0, lim_1, lim_2, lim_3, lim_4, lim_5, lim_9, if_true, rbind_ok, rbind_ex, out_ok, out_ex, then_nx, then_rt, then_ex, of_some, frz_val, frz_own, cr_nx, cr_rt, cr_ex, get_zero, get_succ, Env.put, Option.map_some, Option.map_none, Option.bind_some, startE, List.map_cons, List.map_nil, List.length_cons, List.length_nil, List.cons_append, List.nil_append, List.replicate_succ, List.replicate_zero, List.set_cons_zero, List.set_cons_succ, Nat.reduceAdd, Nat.reduceSub, Nat.zero_add, Bool.not_true, List.append_nil]
    | false =>
      cases hf : flt 0 ls with
      | none => simp only [X12, G, hdS, tlS, r1, r2, r3, r4, r5, r6, b_law, faultD, orF, tail_, left_, ev_cst, ev_var, ev_take, ev_fz, ev_glb, ev_tup, ev_lst, ev_bin, ev_neg, ev_not, ev_and, ev_or, ev_ite, ev_cmp, ev_cmp2, ev_idx, ev_slc, ev_call, ev_callv, ev_bi, ev_biP, ev_mt, ev_mtP, ev_isi, evs_nil, evs_cons, evo_non, evo_som, evi_of, evi_rg1, evi_rg2, evi_enum, evi_zip, xs_pass, xs_asg, xs_own, xs_asgT, xs_ite, xs_ret, xs_retN, xs_expr, xs_raise, xs_app, xs_tr, xss_nil, xss_cons, bi_len_s, bi_len_t, bi_len_l, bi_len_c, bi_abs_i, bi_int_i, bi_tup_t, bi_tup_l, bi_lst_t, bi_lst_l, bi_all_l, bi_any_l, op_add_i, op_sub_i, op_mul_i, op_div_i, op_mod_i, op_add_s, cm_lt_i, cm_le_i, cm_gt_i, cm_ge_i, ci_lt_i, ci_le_i, cm_eq, cm_ne, cm_in, cm_nin, cm_is, cm_isn, is_nn, is_bn, is_in, is_sn, is_tn, is_bb, tr_non, tr_bl, tr_int, tr_str, tr_tup, tr_lst, ty_s, ix_t, ix_l, ix_c, ix_s, it_t, it_l, it_s, it_c, put_nm, put_2, put_3, lim_0, lim_1, lim_2, lim_3, lim_4, lim_5, lim_9, if_true, rbind_ok, rbind_ex, out_ok, out_ex, then_nx, then_rt, then_ex, of_some, frz_val, frz_own, cr_nx, cr_rt, cr_ex, get_zero, get_succ, Env.put, Option.map_some, Option.map_none, Option.bind_some, startE, List.map_cons, List.map_nil, List.length_cons, List.length_nil, List.cons_append, List.nil_append, List.replicate_succ, List.replicate_zero, List.set_cons_zero, List.set_cons_succ, Nat.reduceAdd, Nat.reduceSub, Nat.zero_add, Bool.not_false, hlen, Bool.false_eq_true, if_false, List.length_map]
      | some j => simp only [X12, G, hdS, tlS, r1, r2, r3, r4, r5, r6, b_law, faultD, orF, tail_, left_, ev_cst, ev_var, ev_take, ev_fz, ev_glb, ev_tup, ev_lst, ev_bin, ev_neg, ev_not, ev_and, ev_or, ev_ite, ev_cmp, ev_cmp2, ev_idx, ev_slc, ev_call, ev_callv, ev_bi, ev_biP, ev_mt, ev_mtP, ev_isi, evs_nil, evs_cons, evo_non, evo_som, evi_of, evi_rg1, evi_rg2, evi_enum, evi_zip, xs_pass, xs_asg, xs_own, xs_asgT, xs_ite, xs_ret, xs_retN, xs_expr, xs_raise, xs_app, xs_tr, xss_nil, xss_cons, bi_len_s, bi_len_t, bi_len_l, bi_len_c, bi_abs_i, bi_int_i, bi_tup_t, bi_tup_l, bi_lst_t, bi_lst_l, bi_all_l, bi_any_l, op_add_i, op_sub_i, op_mul_i, op_div_i, op_mod_i, op_add_s, cm_lt_i, cm_le_i, cm_gt_i, cm_ge_i, ci_lt_i, ci_le_i, cm_eq, cm_ne, cm_in, cm_nin, cm_is, cm_isn, is_nn, is_bn, is_in, is_sn, is_tn, is_bb, tr_non, tr_bl, tr_int, tr_str, tr_tup, tr_lst, ty_s, ix_t, ix_l, ix_c, ix_s, it_t, it_l, it_s, it_c, put_nm, put_2, put_3, lim_0, lim_1, lim_2, lim_3, lim_4, lim_5, lim_9, if_true, rbind_ok, rbind_ex, out_ok, out_ex, then_nx, then_rt, then_ex, of_some, frz_val, frz_own, cr_nx, cr_rt, cr_ex, get_zero, get_succ, Env.put, Option.map_some, Option.map_none, Option.bind_some, startE, List.map_cons, List.map_nil, List.length_cons, List.length_nil, List.cons_append, List.nil_append, List.replicate_succ, List.replicate_zero, List.set_cons_zero, List.set_cons_succ, Nat.reduceAdd, Nat.reduceSub, Nat.zero_add, Bool.not_false, hlen, Bool.false_eq_true, if_false]
  refine (run_s (B := r1) (s := hdS r1) (r := r2) rfl s1).trans ?_
  refine (run_s (B := r2) (s := hdS r2) (r := r3) rfl s2).trans ?_
  refine (run_s (B := r3) (s := hdS r3) (r := r4) rfl s3).trans ?_
  refine (run_s (B := r4) (s := hdS r4) (r := r5) rfl s4).trans ?_
  refine (run_s (B := r5) (s := hdS r5) (r := r6) rfl s5).trans ?_
  refine (run_s (B := r6) (s := hdS r6) (r := r7) rfl s6).trans ?_
  cases hf : flt2 b ls with
  | some j => exact run_x (B := r7) (s := hdS r7) (r := r8) rfl (fault_ok hok hf) (fun ρ' e => by cases e)
  | none =>
    unfold flt2 at hf
    cases b with
    | false => cases q : flt 0 ls <;> rw [q] at hf <;> cases hf
    | true =>
      have hf0 : flt 0 ls = none := by
        cases q : flt 0 ls with
        | none => rfl
        | some j => rw [q] at hf; cases hf
      exact end_ok hok h9 (flt_all hf0)
theorem law_ok : ∀ ns : List Int, ns.length ≤ 63 → Lv md.T md.sb md.F (12 + 1) "law" [.scr ns] = .ok (.val (.bl true)) := by
  intro ns hl
  obtain ⟨v0, hv0⟩ := c_number 10 ns hl 0 (by omega) (by omega)
  obtain ⟨v1, hv1⟩ := c_number 10 ns hl 1 (by omega) (by omega)
  have hv0 : Lv md.T md.sb md.F 12 "_law_number" [.scr ns, .int 0] = _ := hv0
  have hv1 : Lv md.T md.sb md.F 12 "_law_number" [.scr ns, .int 1] = _ := hv1
  have b9 : 0 ≤ v0 % 9 ∧ v0 % 9 < 9 := ⟨Int.emod_nonneg _ (by omega), Int.emod_lt_of_pos _ (by omega)⟩
  have hk : ∀ k : Nat, ∃ t, gd 200 t ∧ (k ≤ 20 → Lv md.T md.sb md.F 12 "_law_line" [.scr ns, .int (10 + (0 + (k : Nat)))] = .ok (.val (.str t))) := fun k => by
    by_cases h : k ≤ 20
    · obtain ⟨t, h1, h2⟩ := c_line 9 ns hl (10 + (0 + (k : Nat))) (by omega) (by omega)
      exact ⟨t, h1, fun _ => h2⟩
    · exact ⟨[], ⟨by simp, by simp⟩, fun z => absurd z h⟩
  let f := fun k => Classical.choose (hk k)
  have hf : ∀ k, gd 200 (f k) ∧ (k ≤ 20 → Lv md.T md.sb md.F 12 "_law_line" [.scr ns, .int (10 + (0 + (k : Nat)))] = .ok (.val (.str (f k)))) := fun k => Classical.choose_spec (hk k)
  rw [Lv_eq (b := f_law) (by kernel_rfl) rfl]
  have hm : (v0 % 9).toNat ≤ 9 := by omega
  have p9 : (0 : Int) < 9 := by omega
  have hit : evi (Lv md.T md.sb md.F 12) (.rg1 (.bin .mod (.bi .int (.cons (.call "_law_number" (.cons (.var 0) (.cons (.cst (.int 0)) .nil))) .nil)) (.cst (.int 9)))) [some (.val (.scr ns)), none, none, none, none, none, none, none, none, none, none, none, none, none, none] = .ok (rangeL 0 (v0 % 9).toNat) [some (.val (.scr ns)), none, none, none, none, none, none, none, none, none, none, none, none, none, none] := by
    refine evi_rgm (i := v0 % 9) ?_ ⟨b9.1, by omega⟩
    simp only [ev_cst, ev_var, ev_take, ev_fz, ev_glb, ev_tup, ev_lst, ev_bin, ev_neg, ev_not, ev_and, ev_or, ev_ite, ev_cmp, ev_cmp2, ev_idx, ev_slc, ev_call, ev_callv, ev_bi, ev_biP, ev_mt, ev_mtP, ev_isi, evs_nil, evs_cons, evo_non, evo_som, evi_of, evi_rg1, evi_rg2, evi_enum, evi_zip, xs_pass, xs_asg, xs_own, xs_asgT, xs_ite, xs_ret, xs_retN, xs_expr, xs_raise, xs_app, xs_tr, xss_nil, xss_cons, bi_len_s, bi_len_t, bi_len_l, bi_len_c, bi_abs_i, bi_int_i, bi_tup_t, bi_tup_l, bi_lst_t, bi_lst_l, bi_all_l, bi_any_l, op_add_i, op_sub_i, op_mul_i, op_div_i, op_mod_i, op_add_s, cm_lt_i, cm_le_i, cm_gt_i, cm_ge_i, ci_lt_i, ci_le_i, cm_eq, cm_ne, cm_in, cm_nin, cm_is, cm_isn, is_nn, is_bn, is_in, is_sn, is_tn, is_bb, tr_non, tr_bl, tr_int, tr_str, tr_tup, tr_lst, ty_s, ix_t, ix_l, ix_c, ix_s, it_t, it_l, it_s, it_c, put_nm, put_2, put_3, lim_0, lim_1, lim_2, lim_3, lim_4, lim_5, lim_9, if_true, rbind_ok, rbind_ex, out_ok, out_ex, then_nx, then_rt, then_ex, of_some, frz_val, frz_own, cr_nx, cr_rt, cr_ex, get_zero, get_succ, Env.put, Option.map_some, Option.map_none, Option.bind_some, startE, List.map_cons, List.map_nil, List.length_cons, List.length_nil, List.cons_append, List.nil_append, List.replicate_succ, List.replicate_zero, List.set_cons_zero, List.set_cons_succ, Nat.reduceAdd, Nat.reduceSub, Nat.zero_add, hv0, p9]
  have hcm := comp_ok (Γ := Lv md.T md.sb md.F 12) (i := 6) (e := .call "_law_line" (.cons (.var 0) (.cons (.bin .add (.cst (.int 10)) (.var 6)) .nil))) (u := fun k : Nat => .int (0 + (k : Nat))) (h := fun k => .str (f k)) (l := List.range (v0 % 9).toNat) hit rfl (by simp [LIM]; omega) (fun k hkm => ⟨.val (.str (f k)), by
    have hk2 : k ≤ 20 := by have := List.mem_range.mp hkm; omega
    simp only [ev_cst, ev_var, ev_take, ev_fz, ev_glb, ev_tup, ev_lst, ev_bin, ev_neg, ev_not, ev_and, ev_or, ev_ite, ev_cmp, ev_cmp2, ev_idx, ev_slc, ev_call, ev_callv, ev_bi, ev_biP, ev_mt, ev_mtP, ev_isi, evs_nil, evs_cons, evo_non, evo_som, evi_of, evi_rg1, evi_rg2, evi_enum, evi_zip, xs_pass, xs_asg, xs_own, xs_asgT, xs_ite, xs_ret, xs_retN, xs_expr, xs_raise, xs_app, xs_tr, xss_nil, xss_cons, bi_len_s, bi_len_t, bi_len_l, bi_len_c, bi_abs_i, bi_int_i, bi_tup_t, bi_tup_l, bi_lst_t, bi_lst_l, bi_all_l, bi_any_l, op_add_i, op_sub_i, op_mul_i, op_div_i, op_mod_i, op_add_s, cm_lt_i, cm_le_i, cm_gt_i, cm_ge_i, ci_lt_i, ci_le_i, cm_eq, cm_ne, cm_in, cm_nin, cm_is, cm_isn, is_nn, is_bn, is_in, is_sn, is_tn, is_bb, tr_non, tr_bl, tr_int, tr_str, tr_tup, tr_lst, ty_s, ix_t, ix_l, ix_c, ix_s, it_t, it_l, it_s, it_c, put_nm, put_2, put_3, lim_0, lim_1, lim_2, lim_3, lim_4, lim_5, lim_9, if_true, rbind_ok, rbind_ex, out_ok, out_ex, then_nx, then_rt, then_ex, of_some, frz_val, frz_own, cr_nx, cr_rt, cr_ex, get_zero, get_succ, Env.put, Option.map_some, Option.map_none, Option.bind_some, startE, List.map_cons, List.map_nil, List.length_cons, List.length_nil, List.cons_append, List.nil_append, List.replicate_succ, List.replicate_zero, List.set_cons_zero, List.set_cons_succ, Nat.reduceAdd, Nat.reduceSub, Nat.zero_add, (hf k).2 hk2], rfl⟩)
  have s0 : X12 (hdS b_law) [some (.val (.scr ns)), none, none, none, none, none, none, none, none, none, none, none, none, none, none] = .nx [some (.val (.scr ns)), some (.val (.lst (((List.range (v0 % 9).toNat).map f).map .str))), none, none, none, none, none, none, none, none, none, none, none, none, none] := by
    simp only [X12, G, hdS, b_law, ev_cst, ev_var, ev_take, ev_fz, ev_glb, ev_tup, ev_lst, ev_bin, ev_neg, ev_not, ev_and, ev_or, ev_ite, ev_cmp, ev_cmp2, ev_idx, ev_slc, ev_call, ev_callv, ev_bi, ev_biP, ev_mt, ev_mtP, ev_isi, evs_nil, evs_cons, evo_non, evo_som, evi_of, evi_rg1, evi_rg2, evi_enum, evi_zip, xs_pass, xs_asg, xs_own, xs_asgT, xs_ite, xs_ret, xs_retN, xs_expr, xs_raise, xs_app, xs_tr, xss_nil, xss_cons, bi_len_s, bi_len_t, bi_len_l, bi_len_c, bi_abs_i, bi_int_i, bi_tup_t, bi_tup_l, bi_lst_t, bi_lst_l, bi_all_l, bi_any_l, op_add_i, op_sub_i, op_mul_i, op_div_i, op_mod_i, op_add_s, cm_lt_i, cm_le_i, cm_gt_i, cm_ge_i, ci_lt_i, ci_le_i, cm_eq, cm_ne, cm_in, cm_nin, cm_is, cm_isn, is_nn, is_bn, is_in, is_sn, is_tn, is_bb, tr_non, tr_bl, tr_int, tr_str, tr_tup, tr_lst, ty_s, ix_t, ix_l, ix_c, ix_s, it_t, it_l, it_s, it_c, put_nm, put_2, put_3, lim_0, lim_1, lim_2, lim_3, lim_4, lim_5, lim_9, if_true, rbind_ok, rbind_ex, out_ok, out_ex, then_nx, then_rt, then_ex, of_some, frz_val, frz_own, cr_nx, cr_rt, cr_ex, get_zero, get_succ, Env.put, Option.map_some, Option.map_none, Option.bind_some, startE, List.map_cons, List.map_nil, List.length_cons, List.length_nil, List.cons_append, List.nil_append, List.replicate_succ, List.replicate_zero, List.set_cons_zero, List.set_cons_succ, Nat.reduceAdd, Nat.reduceSub, Nat.zero_add, hcm, List.map_map]
    rfl
  have e0 : XX12 b_law [some (.val (.scr ns)), none, none, none, none, none, none, none, none, none, none, none, none, none, none] = .rt (.val (.bl true)) := by
    refine (run_s (B := b_law) (s := hdS b_law) (r := r1) rfl s0).trans ?_
    exact lines_ok (by simpa using hm) (fun l hl => by
      obtain ⟨k, _, rfl⟩ := List.mem_map.mp hl
      exact (hf k).1) hv1
  have e1 : xss (Lv md.T md.sb md.F 12) md.T.xi md.sb f_law.body (startE f_law.m [.scr ns]) = .rt (.val (.bl true)) := e0
  rw [e1]
  rfl
end K79

set_option Elab.async false
set_option linter.all false
set_option maxRecDepth 100000
set_option maxHeartbeats 0
open PySem PySem.W PySem.Calls PyProof.Rows
theorem PySem.Challenge.cw_bothways_k79_words_remarks_lines_holds : PySem.Challenge.rw_bothways_k79_words_remarks_lines.Holds := by
  w_on; o_law
  refine HandSHeadRun.head_any (r := OpenLaw.row PySem.Challenge.rw_bothways_k79_words_remarks_lines) (q := view (OpenLaw.row PySem.Challenge.rw_bothways_k79_words_remarks_lines).prog [K79.lawAt]) (H := K79.hk) (ob := K79.ob) (M := 2000) (loose := K79.loose) (d := HandSHeadRun.topDef (OpenLaw.row PySem.Challenge.rw_bothways_k79_words_remarks_lines).prog K79.lawAt) (kwd := []) K79.ob_eq
    (by kernel_rfl) (fun s => by kernel_rfl) K79.run (by kernel_rfl) (by kernel_rfl) (by kernel_rfl) (by rfl) (by first | assumption | decide +kernel) (by decide +kernel) ⟨rfl, rfl, rfl, rfl, rfl, by decide +kernel⟩ ?hw ?hc
  case hw => w_witness2
  case hc =>
    refine Bw.walk_law (l := PySem.Challenge.rw_bothways_k79_words_remarks_lines) (k := 12) (M := K79.md) (xc := K79.xc) (nn := 4) (r := ⟨"law", [("script" : Str)], ["script", "lines", "line", "closed", "source", "fault", "k", "told", "notes", "cut", "thing", "short", "name", "words", "which"], L2.defArgs (K79.top 29), L2.defBody (K79.top 29), L2.defScope (K79.top 29), K79.f_law⟩) rfl (by kernel_rfl) ⟨rfl, by decide, by decide⟩ K79.good K79.goodI (by kernel_rfl) ?_ (by kernel_rfl) (by kernel_rfl) rfl K79.law_ok
    exact List.mem_of_getElem? (i := 19) rfl

