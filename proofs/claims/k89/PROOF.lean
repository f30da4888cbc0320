import PyProof.Rows.All
import Wide.All
import OpenK.AllK
import Wide.FinOn
import HandS.ForMost
import HandS.Wide
import HandS.StrMore
import HandS.Gcd
import HandS.IsInst
import HandS.Conv
import HandS.FStr
import KE.KxField
import HandS.Small
import HandS.DictComp
import HandS.Walk
import PyProof.DictCompW
import HandS.Codes
import HandS.Defaults
import HandS.GenOver
import PyProof.Rows.RowBridgeG
import PyProof.Gen
import PyProof.GenRules
import PyProof.GenQ
import HandS.GenList
import OpenK.KOps
import HandS.Star
import KE.GoesMore
import HandS.Words
import HandS.Head0
import HandS.Head1
import HandS.Head2
import HandS.Head3
import HandS.HeadEnd
import HandS.HeadHook1
import HandS.HeadHook2
import PySem.Challenge.RW_lostland_k89_listing_of_rooms
import PyProof.Rows.StrCut
import PyProof.Rows.ReprOcc
section
set_option Elab.async false
set_option linter.all false
set_option maxRecDepth 100000
/-! SyA: the values, the cells, the syntax and the evaluator (no program, no model here). -/
namespace Sy
open PySem L2

/-- a dict's key: an int or a text -/
abbrev DK := Key

/-- trees: values that nobody changes any more -/
inductive T where
  | non | bl (b : Bool) | int (i : Int) | str (x : Str)
  | tup (xs : List T) | lst (xs : List T) | dct (ks : List DK) (vs : List T) | obj (c : Nat) (xs : List T) | fn (f : Nat)
  deriving Inhabited

/-- what a name of a def holds: a tree, or a cell of the def's own -/
inductive W where
  | t (v : T) | loc (n : Nat)
  deriving Inhabited

/-- what a cell holds -/
inductive Cell where
  | lst (xs : List T) | dct (ks : List DK) (vs : List T) | obj (c : Nat) (xs : List T)
def Cell.tree : Cell → T
  | .lst xs => .lst xs
  | .dct ks vs => .dct ks vs
  | .obj c xs => .obj c xs
/-- a cell with its marks: lk: a loop walks it; fz: it has become part of a tree -/
structure En where
  c : Cell
  lk : Bool
  fz : Bool
abbrev Sto := List En
abbrev Env := List (Option W)

inductive R (α : Type) where
  | ok (a : α) (μ : Sto) | exc (e : T) (μ : Sto) | bad
def R.bind {α β : Type} (r : R α) (f : α → Sto → R β) : R β := match r with
  | .ok a μ => f a μ
  | .exc e μ => .exc e μ
  | .bad => .bad

/-- a new value: a tree, or a new object that may be kept as a cell -/
inductive Nw where
  | t (v : T) | c (x : Cell)
def fin (k : Bool) (n : Nw) (μ : Sto) : R W := match n with
  | .t v => .ok (.t v) μ
  | .c x => match k with
    | true => .ok (.loc μ.length) (μ ++ [⟨x, false, false⟩])
    | false => .ok (.t x.tree) μ
/-- what stands there now -/
def view (w : W) (μ : Sto) : Option T := match w with
  | .t v => some v
  | .loc n => match μ[n]? with
    | some e => some e.c.tree
    | none => none
/-- it becomes part of a tree -/
def toT (w : W) (μ : Sto) : R T := match w with
  | .t v => .ok v μ
  | .loc n => match μ[n]? with
    | some e => .ok e.c.tree (μ.set n ⟨e.c, e.lk, true⟩)
    | none => .bad
def toTs : List W → Sto → R (List T)
  | [], μ => .ok [] μ
  | w :: ws, μ => (toT w μ).bind fun v μ => (toTs ws μ).bind fun vs μ => .ok (v :: vs) μ
def views : List W → Sto → Option (List T)
  | [], _ => some []
  | w :: ws, μ => match view w μ, views ws μ with
    | some v, some vs => some (v :: vs)
    | _, _ => none

/-! ### operators -/
inductive Bop where
  | add | sub | mul | fdiv | mod | pow
inductive Cop where
  | eq | ne | lt | le | gt | ge | isIn | notIn | isN | notN
  deriving DecidableEq
/-- the sizes that the model's rules ask -/
def MulOkI (i j : Int) : Prop := CMul i j ∨ CMulW i j
instance (i j : Int) : Decidable (MulOkI i j) := by unfold MulOkI CMul CMulW; exact inferInstance
def DivOk (_ j : Int) : Prop := j ≠ 0 ∧ j.natAbs.log2 < 9000
instance (i j : Int) : Decidable (DivOk i j) := by unfold DivOk; exact inferInstance
instance (i j : Int) : Decidable (CPow i j) := by unfold CPow; exact inferInstance
def RepOk (n : Nat) (k : Int) : Prop := -(2 ^ 63) ≤ k ∧ k < 2 ^ 63 ∧ n * k.toNat ≤ sizeLine
instance (n : Nat) (k : Int) : Decidable (RepOk n k) := by unfold RepOk; exact inferInstance
def op2 (o : Bop) (a b : T) : Option Nw := match o, a, b with
  | .add, .int i, .int j => some (.t (.int (i + j)))
  | .add, .str x, .str y => if x.length + y.length ≤ sizeLine then some (.t (.str (x ++ y))) else none
  | .add, .lst x, .lst y => if x.length + y.length ≤ sizeLine then some (.c (.lst (x ++ y))) else none
  | .add, .tup x, .tup y => if x.length + y.length ≤ sizeLine ∧ x ≠ [] then some (.t (.tup (x ++ y))) else none
  | .sub, .int i, .int j => some (.t (.int (i - j)))
  | .mul, .int i, .int j => if MulOkI i j then some (.t (.int (i * j))) else none
  | .mul, .lst x, .int k => if RepOk x.length k then some (.c (.lst (List.replicate k.toNat x).flatten)) else none
  | .mul, .str x, .int k => if RepOk x.length k then some (.t (.str (Txt.mul x k))) else none
  | .fdiv, .int i, .int j => if DivOk i j then some (.t (.int (i.fdiv j))) else none
  | .mod, .int i, .int j => if j ≠ 0 then some (.t (.int (i.fmod j))) else none
  | .pow, .int i, .int j => if CPow i j then some (.t (.int (i ^ j.toNat))) else none
  | _, _, _ => none

/-! data as the library's own == takes it -/
mutual
def pd : T → PyData
  | .non => .none
  | .bl b => .bool b
  | .int i => .int i
  | .str x => .str x
  | .tup xs => .tuple (pds xs)
  | .lst xs => .list (pds xs)
  | .dct _ _ => .dict []
  | .obj _ _ => .dict []
  | .fn _ => .dict []
def pds : List T → List PyData
  | [] => []
  | x :: xs => pd x :: pds xs
end
def atom : T → Option V
  | .non => some .non
  | .bl b => some (.bl b)
  | .int i => some (.int i)
  | .str x => some (.str x)
  | _ => none
def eqT (a b : T) : Option Bool := match atom a, atom b with
  | some x, some y => if scal x y then some (decide (x = y)) else none
  | _, _ => if SeqAt.shaped (pd a) && SeqAt.shaped (pd b) then some (PyData.eqv (pd a) (pd b)) else none
/-- a key -/
def keyOf : T → Option DK
  | .int i => some (.inl i)
  | .str x => some (.inr x)
  | _ => none
def keyT : DK → T
  | .inl i => .int i
  | .inr x => .str x
def dget : List DK → List T → DK → Option T
  | k' :: ks, v :: vs, k => if k' = k then some v else dget ks vs k
  | _, _, _ => none
def hasK (ks : List DK) (k : DK) : Bool := ks.any fun k' => decide (k' = k)
def dput (ks : List DK) (vs : List T) (k : DK) (v : T) : List DK × List T :=
  if hasK ks k = true then (ks, List.zipWith (fun k' v' => if k' = k then v else v') ks vs) else (ks ++ [k], vs ++ [v])
def inT (x : T) (xs : List T) : Option Bool := match atom x with
  | none => none
  | some a => (xs.mapM atom).map fun ys => inV a ys
def cmpT (o : Cop) (a b : T) : Option Bool := match o with
  | .eq => eqT a b
  | .ne => (eqT a b).map not
  | .lt => match a, b with
    | .int i, .int j => some (decide (i < j))
    | .str x, .str y => some (decide (x.cps.toList < y.cps.toList))
    | _, _ => none
  | .le => match a, b with
    | .int i, .int j => some (decide (i ≤ j))
    | _, _ => none
  | .gt => match a, b with
    | .int i, .int j => some (decide (j < i))
    | _, _ => none
  | .ge => match a, b with
    | .int i, .int j => some (decide (j ≤ i))
    | _, _ => none
  | .isIn => match b with
    | .lst xs => inT a xs
    | .tup xs => inT a xs
    | .dct ks _ => (keyOf a).map fun k => hasK ks k
    | .str y => match a with
      | .str x => some (!(Builtin.Str.occurrences y x 0 y.length 1).isEmpty)
      | _ => none
    | _ => none
  | .notIn => match b with
    | .lst xs => (inT a xs).map not
    | .tup xs => (inT a xs).map not
    | .dct ks _ => (keyOf a).map fun k => !hasK ks k
    | .str y => match a with
      | .str x => some (!(!(Builtin.Str.occurrences y x 0 y.length 1).isEmpty))
      | _ => none
    | _ => none
  | .isN => match b with
    | .non => match a with
      | .non => some true
      | _ => some false
    | _ => none
  | .notN => match b with
    | .non => match a with
      | .non => some false
      | _ => some true
    | _ => none
def truT : T → Option Bool
  | .non => some false
  | .bl b => some b
  | .int i => some (i != 0)
  | .str x => if x.length ≤ sizeLine then some (x.length != 0) else none
  | .tup xs => some (!xs.isEmpty)
  | .lst xs => some (!xs.isEmpty)
  | .dct ks _ => some (!ks.isEmpty)
  | _ => none
def idxT (a i : T) : Option T := match a, i with
  | .lst xs, .int n => atI xs n
  | .tup xs, .int n => atI xs n
  | .str z, .int n => if z.length ≤ sizeLine then (atI z.cps.toList n).map fun c => .str ⟨#[c]⟩ else none
  | .dct ks vs, k => match keyOf k with
    | some k => dget ks vs k
    | none => none
  | _, _ => none
def cutL {α : Type} (xs : List α) (lo hi : Option Int) : List α := (xs.drop (HT.sIx xs.length 0 lo)).take (HT.sIx xs.length xs.length hi - HT.sIx xs.length 0 lo)
def slcT (a : T) (lo hi : Option Int) : Option Nw := match a with
  | .lst xs => some (.c (.lst (cutL xs lo hi)))
  | .tup xs => if HT.sIx xs.length 0 lo = 0 ∧ HT.sIx xs.length xs.length hi = xs.length then none else some (.t (.tup (cutL xs lo hi)))
  | .str z => if z.length ≤ sizeLine then some (.t (.str (cutS z lo hi))) else none
  | _ => none
def seqT : T → Option (List T)
  | .lst xs => some xs
  | .tup xs => some xs
  | _ => none

/-! ### built-ins -/
inductive Bf where
  | len | int_ | abs_ | str_ | list_ | tuple_ | sorted_ | all_ | any_ | max2 | min2 | gcd
/-- texts in ascending order (stable insertion is enough: equal texts are alike) -/
def leS (x y : Str) : Bool := !decide (y.cps.toList < x.cps.toList)
def insS (x : Str) : List Str → List Str
  | [] => [x]
  | y :: ys => if leS x y then x :: y :: ys else y :: insS x ys
def sortS : List Str → List Str
  | [] => []
  | x :: xs => insS x (sortS xs)
def strsOf : List T → Option (List Str)
  | [] => some []
  | .str x :: r => (strsOf r).map (x :: ·)
  | _ :: _ => none
def blsOf : List T → Option (List Bool)
  | [] => some []
  | .bl x :: r => (blsOf r).map (x :: ·)
  | _ :: _ => none
def bltT (f : Bf) (as : List T) : Option Nw := match f, as with
  | .len, [.lst xs] => some (.t (.int (xs.length : Nat)))
  | .len, [.tup xs] => some (.t (.int (xs.length : Nat)))
  | .len, [.dct ks _] => some (.t (.int (ks.length : Nat)))
  | .len, [.str x] => if x.length ≤ sizeLine then some (.t (.int (x.length : Nat))) else none
  | .int_, [.int i] => some (.t (.int i))
  | .int_, [.bl b] => some (.t (.int (if b then 1 else 0)))
  | .abs_, [.int i] => some (.t (.int (if i < 0 then -i else i)))
  | .str_, [.int i] => if i.natAbs.log2 < 1920 then some (.t (.str (toString i : String))) else none
  | .list_, [.lst xs] => some (.c (.lst xs))
  | .list_, [.tup xs] => some (.c (.lst xs))
  | .list_, [.dct ks _] => some (.c (.lst (ks.map keyT)))
  | .tuple_, [.lst xs] => some (.t (.tup xs))
  | .tuple_, [.tup xs] => some (.t (.tup xs))
  | .sorted_, [.lst xs] => match strsOf xs with
    | some ys => if xs.length < 64 then some (.c (.lst ((sortS ys).map .str))) else none
    | none => none
  | .all_, [.lst xs] => (blsOf xs).map fun bs => .t (.bl (bs.all id))
  | .any_, [.lst xs] => (blsOf xs).map fun bs => .t (.bl (bs.any id))
  | .max2, [.int i, .int j] => some (.t (.int (if j > i then j else i)))
  | .min2, [.int i, .int j] => some (.t (.int (if j < i then j else i)))
  | .gcd, [.int i, .int j] => some (.t (.int ((Nat.gcd i.natAbs j.natAbs : Nat) : Int)))
  | _, _ => none
inductive Bm where
  | join | stripC
def bmT (m : Bm) (as : List T) : Option Nw := match m, as with
  | .join, [.str a, .lst xs] => match strsOf xs with
    | some ys => if (ys.map (·.length)).sum + ys.length * a.length ≤ 16777216 then some (.t (.str (Txt.join a ys))) else none
    | none => none
  | .stripC, [.str a, .str b] => if a.length ≤ sizeLine then some (.t (.str (Txt.stripChars a b))) else none
  | _, _ => none
/-- isinstance -/
inductive Cl where
  | int | bool | str | list | tuple | dict | own (c : Nat)
  deriving DecidableEq
def isiT (a : T) (c : Cl) : Option Bool := match a with
  | .non => some false
  | .bl _ => some (decide (c = .bool) || decide (c = .int))
  | .int _ => some (decide (c = .int))
  | .str _ => some (decide (c = .str))
  | .tup _ => some (decide (c = .tuple))
  | .lst _ => some (decide (c = .list))
  | .dct _ _ => some (decide (c = .dict))
  | .obj k _ => some (decide (c = .own k))
  | .fn _ => none
def isiAny (a : T) : List Cl → Option Bool
  | [] => some false
  | c :: cs => match isiT a c, isiAny a cs with
    | some x, some y => some (x || y)
    | _, _ => none

/-! ### the syntax -/
inductive Fs where
  | no | left (n : Nat) | right (n : Nat)
mutual
inductive Ex where
  | never
  | var (i : Nat)
  | cst (t : T)
  | glb (j : Nat)
  | op2 (o : Bop) (k : Bool) (a b : Ex)
  | neg (a : Ex)
  | nt (a : Ex)
  | and_ (as : List Ex)
  | or_ (as : List Ex)
  | ife (c a b : Ex)
  | cmp (o : Cop) (a b : Ex)
  | chn (o p : Cop) (a b c : Ex)
  | tup (es : List Ex)
  | lst (k : Bool) (es : List Ex)
  | dct (k : Bool)
  | idx (a i : Ex)
  | slc (k : Bool) (a lo hi : Ex)
  | att (al : List (Nat × Nat)) (a : Ex)
  | isi (cs : List Cl) (a : Ex)
  | blt (k : Bool) (f : Bf) (es : List Ex)
  | bmt (k : Bool) (m : Bm) (es : List Ex)
  | call (k : Bool) (f : Nat) (es : List Ex)
  | new (k : Bool) (c f : Nat) (es : List Ex)
  | newV (k : Bool) (c f : Nat) (st : Bool) (es : List Ex) (kv : Ex)
  | lenO (al : List (Nat × Nat)) (e : Ex)
  | mth (k : Bool) (al : List (Nat × Nat)) (o : Ex) (es : List Ex)
  | comp (k : Bool) (dr : List Nat) (it : It) (tg : Tg) (ifs : List Ex) (e : Ex)
  | comp2 (k : Bool) (dr : List Nat) (it : It) (tg : Tg) (it2 : It) (tg2 : Tg) (ifs : List Ex) (e : Ex)
  | dcomp (k : Bool) (dr : List Nat) (it : It) (tg : Tg) (ifs : List Ex) (e v : Ex)
  | dcomp2 (k : Bool) (dr : List Nat) (it : It) (tg : Tg) (it2 : It) (tg2 : Tg) (ifs : List Ex) (e v : Ex)
  | fst (es : List Ex)
  | fm (f : Fs) (e : Ex)
  | lstg (k : Bool) (f : Nat) (es : List Ex)
inductive It where
  | seq (e : Ex)
  | rng1 (e : Ex)
  | rng2 (e f : Ex)
  | enum (e : Ex)
  | zip (e f : Ex)
  | items (e : Ex)
inductive Tg where
  | nm (i : Nat)
  | tp (ts : List Tg)
  | sb (a i : Ex)
end
mutual
inductive Sm where
  | never
  | asg (tg : Tg) (e : Ex)
  | par (tgs : List Tg) (es : List Ex)
  | atr (al : List (Nat × Nat)) (a e : Ex)
  | app (a e : Ex)
  | ex (e : Ex)
  | ret (e : Ex)
  | ret0
  | ife (c : Ex) (a b : List Sm)
  | whl (dr : List Nat) (c : Ex) (b : List Sm)
  | for_ (dr : List Nat) (it : It) (tg : Tg) (b : List Sm)
  | forg (dr : List Nat) (f : Nat) (es : List Ex) (tg : Tg) (b : List Sm)
  | forc (dr : List Nat) (en : Bool) (e : Ex) (tg : Tg) (b : List Sm)
  | brk
  | cnt
  | pas
end

/-! ### the evaluator -/
/-- what a call is given, what it hands back: trees, or cells of the caller's own (outs: as they are behind the call, and whether they have become part of a tree) -/
inductive Ar where
  | t (v : T) | c (x : Cell)
inductive CR where
  | ok (r : Ar) (outs : List (Cell × Bool)) | exc (e : T) (outs : List (Cell × Bool)) | bad
structure Ctx where
  call : Nat → List Ar → CR
  fuel : Nat
  glb : List T
  gen : Nat → List T → Option (List T)

mutual
def tgS : Tg → List Nat
  | .nm i => [i]
  | .tp ts => tgSs ts
  | .sb _ _ => []
def tgSs : List Tg → List Nat
  | [] => []
  | t :: ts => tgS t ++ tgSs ts
end
def unset (ρ : Env) : List Nat → Env
  | [] => ρ
  | v :: vs => (unset ρ vs).set v none
/-- the arguments as they are handed over, the cells among them by their numbers -/
def arsOf : List W → Sto → Option (List Ar × List Nat)
  | [], _ => some ([], [])
  | .t v :: ws, μ => match arsOf ws μ with
    | some (as, ns) => some (.t v :: as, ns)
    | none => none
  | .loc n :: ws, μ => match μ[n]?, arsOf ws μ with
    | some e, some (as, ns) => match e.fz, e.lk with
      | true, _ => some (.t e.c.tree :: as, ns)
      | false, false => some (.c e.c :: as, n :: ns)
      | false, true => none
    | _, _ => none
def putBack : List Nat → List (Cell × Bool) → Sto → Sto
  | n :: ns, (c, z) :: os, μ => putBack ns os (μ.set n ⟨c, false, z⟩)
  | _, _, μ => μ
def finA (k : Bool) (r : Ar) (μ : Sto) : R W := match r with
  | .t v => .ok (.t v) μ
  | .c x => fin k (.c x) μ
def evC (C : Ctx) (k : Bool) (f : Nat) (ws : List W) (μ : Sto) : R W := match arsOf ws μ with
  | none => .bad
  | some (as, ns) => if ns.Nodup then match C.call f as with
    | .ok r outs => finA k r (putBack ns outs μ)
    | .exc e outs => .exc e (putBack ns outs μ)
    | .bad => .bad
    else .bad
/-- a new instance: __init__ is called with it -/
def evN (C : Ctx) (k : Bool) (c f : Nat) (ws : List W) (μ : Sto) : R W := match arsOf ws μ with
  | none => .bad
  | some (as, ns) => if ns.Nodup then match C.call f (.c (.obj c []) :: as) with
    | .ok (.t .non) ((o, z) :: outs) => fin (k && !z) (.c o) (putBack ns outs μ)
    | .exc e (_ :: outs) => .exc e (putBack ns outs μ)
    | _ => .bad
    else .bad
def clsOf : Option T → Option Nat
  | some (.obj c _) => some c
  | _ => none
def pairsT : List T → List T → List T
  | x :: xs, y :: ys => .tup [x, y] :: pairsT xs ys
  | _, _ => []
def enumT : Nat → List T → List T
  | _, [] => []
  | n, x :: xs => .tup [.int (n : Int), x] :: enumT (n + 1) xs
def rangeT (lo : Int) : Nat → List T
  | 0 => []
  | n + 1 => .int lo :: rangeT (lo + 1) n
/-- keep: what a comprehension gathers -/
def gath (body : T → Sto → R (Option T)) : List T → Sto → R (List T)
  | [], μ => .ok [] μ
  | x :: xs, μ => (body x μ).bind fun o μ => (gath body xs μ).bind fun vs μ => .ok (match o with | some v => v :: vs | none => vs) μ
/-- two clauses: the inner one gathers a list for each item -/
def gath2 (body : T → Sto → R (List T)) : List T → Sto → R (List T)
  | [], μ => .ok [] μ
  | x :: xs, μ => (body x μ).bind fun us μ => (gath2 body xs μ).bind fun vs μ => .ok (us ++ vs) μ
/-- a dict comprehension: the pairs one behind another -/
def pairOf : T → Option (DK × T)
  | .tup [k, v] => match keyOf k with
    | some k => some (k, v)
    | none => none
  | _ => none
def putAll : List T → List DK → List T → Option (List DK × List T)
  | [], ks, vs => some (ks, vs)
  | p :: r, ks, vs => match pairOf p with
    | some kv => putAll r (dput ks vs kv.1 kv.2).1 (dput ks vs kv.1 kv.2).2
    | none => none
def spc (n : Nat) : Str := ⟨(List.replicate n 32).toArray⟩
def fmT (f : Fs) (v : T) : Option Str := match f, v with
  | .no, .str x => if x.length ≤ sizeLine then some x else none
  | .no, .int i => if i.natAbs.log2 < 1920 then some (toString i : String) else none
  | .left n, .str x => if x.length ≤ sizeLine then some (x ++ spc (n - x.length)) else none
  | .right n, .str x => if x.length ≤ sizeLine then some (spc (n - x.length) ++ x) else none
  | _, _ => none
/-- a part of a slice -/
def prt : W → Option (Option Int)
  | .t (.int i) => some (some i)
  | _ => none
def ofNw (k : Bool) (o : Option Nw) (μ : Sto) : R W := match o with
  | some n => fin k n μ
  | none => .bad
def ofO {α : Type} (o : Option α) (μ : Sto) : R α := match o with
  | some a => .ok a μ
  | none => .bad
/-- a cell's content is changed -/
def setC (n : Nat) (c : Cell) (μ : Sto) : R Unit := match μ[n]? with
  | some e => match e.lk, e.fz with
    | false, false => .ok () (μ.set n ⟨c, false, false⟩)
    | _, _ => .bad
  | none => .bad
def cellOf (w : W) (μ : Sto) : Option (Nat × Cell) := match w with
  | .loc n => match μ[n]? with
    | some e => some (n, e.c)
    | none => none
  | .t _ => none
def isLstC (w : W) (μ : Sto) : Bool := match cellOf w μ with
  | some (_, .lst _) => true
  | _ => false
def setItemC (w : W) (i v : T) (μ : Sto) : R Unit := match cellOf w μ with
  | some (n, .lst xs) => match i with
    | .int k => match ixN xs.length k with
      | some j => setC n (.lst (xs.set j v)) μ
      | none => .bad
    | _ => .bad
  | some (n, .dct ks vs) => match keyOf i with
    | some k => if ks.length < sizeLine then setC n (.dct (dput ks vs k v).1 (dput ks vs k v).2) μ else .bad
    | none => .bad
  | _ => .bad

/-- a value as a test -/
def asT (r : R W) : R Bool := r.bind fun x μ => match view x μ with
  | some s => ofO (truT s) μ
  | none => .bad
/-- the body of a comprehension -/
def cbody (dr : List Nat) (FG : W → Env → Sto → R Env) (FT : Env → Sto → R Bool) (FE : Env → Sto → R T) (ρ : Env) (x : T) (μ : Sto) : R (Option T) :=
  (FG (.t x) (unset ρ dr) μ).bind fun ρ' μ => (FT ρ' μ).bind fun b μ => match b with
    | true => (FE ρ' μ).bind fun v μ => .ok (some v) μ
    | false => .ok none μ
def frE (F : Env → Sto → R W) (ρ : Env) (μ : Sto) : R T := (F ρ μ).bind fun w μ => toT w μ
def frP (F G : Env → Sto → R W) (ρ : Env) (μ : Sto) : R T := (F ρ μ).bind fun w μ => (toT w μ).bind fun s μ => (G ρ μ).bind fun w μ => (toT w μ).bind fun t μ => .ok (.tup [s, t]) μ
def obody (vs vs1 : List Nat) (FG FG1 : W → Env → Sto → R Env) (FI1 : Env → Sto → R (List T)) (FT : Env → Sto → R Bool) (FE : Env → Sto → R T) (ρ : Env) (x : T) (μ : Sto) : R (List T) :=
  (FG (.t x) (unset ρ vs) μ).bind fun ρ1 μ => (FI1 ρ1 μ).bind fun ys μ => gath (cbody vs1 FG1 FT FE ρ1) ys μ
def KD (k : Bool) (dn ps : List T) (μ : Sto) : R W := match putAll (dn ++ ps) [] [] with
  | some (ks, vs) => if (dn ++ ps).length ≤ sizeLine then fin k (.c (.dct ks vs)) μ else .bad
  | none => .bad
section
variable (C : Ctx)
mutual
def evE : Ex → Env → Sto → R W
  | .never, _, _ => .bad
  | .var i, ρ, μ => match ρ[i]? with
    | some (some w) => .ok w μ
    | _ => .bad
  | .cst t, _, μ => .ok (.t t) μ
  | .glb j, _, μ => match C.glb[j]? with
    | some t => .ok (.t t) μ
    | none => .bad
  | .op2 o k a b, ρ, μ => (evE a ρ μ).bind fun x μ => (evE b ρ μ).bind fun y μ => match view x μ, view y μ with
    | some s, some t => ofNw k (op2 o s t) μ
    | _, _ => .bad
  | .neg a, ρ, μ => (evE a ρ μ).bind fun x μ => match x with
    | .t (.int i) => .ok (.t (.int (-i))) μ
    | _ => .bad
  | .nt a, ρ, μ => (evE a ρ μ).bind fun x μ => match x with
    | .t (.bl b) => .ok (.t (.bl (!b))) μ
    | _ => .bad
  | .and_ as, ρ, μ => evAnd as ρ μ
  | .or_ as, ρ, μ => evOr as ρ μ
  | .ife c a b, ρ, μ => (evT c ρ μ).bind fun z μ => match z with
    | true => evE a ρ μ
    | false => evE b ρ μ
  | .cmp o a b, ρ, μ => (evE a ρ μ).bind fun x μ => (evE b ρ μ).bind fun y μ => match view x μ, view y μ with
    | some s, some t => (ofO (cmpT o s t) μ).bind fun z μ => .ok (.t (.bl z)) μ
    | _, _ => .bad
  | .chn o p a b c, ρ, μ => (evE a ρ μ).bind fun x μ => (evE b ρ μ).bind fun y μ => match view x μ, view y μ with
    | some s, some t => match cmpT o s t with
      | some true => (evE c ρ μ).bind fun z μ => match view y μ, view z μ with
        | some t, some u => (ofO (cmpT p t u) μ).bind fun z μ => .ok (.t (.bl z)) μ
        | _, _ => .bad
      | some false => .ok (.t (.bl false)) μ
      | none => .bad
    | _, _ => .bad
  | .tup es, ρ, μ => (evL es ρ μ).bind fun ws μ => (toTs ws μ).bind fun vs μ => if vs.length ≤ sizeLine then .ok (.t (.tup vs)) μ else .bad
  | .lst k es, ρ, μ => (evL es ρ μ).bind fun ws μ => (toTs ws μ).bind fun vs μ => if vs.length ≤ sizeLine then fin k (.c (.lst vs)) μ else .bad
  | .dct k, _, μ => fin k (.c (.dct [] [])) μ
  | .idx a i, ρ, μ => (evE a ρ μ).bind fun x μ => (evE i ρ μ).bind fun y μ => match view x μ, view y μ with
    | some s, some t => (ofO (idxT s t) μ).bind fun v μ => .ok (.t v) μ
    | _, _ => .bad
  | .slc k a lo hi, ρ, μ => (evE a ρ μ).bind fun x μ => (evP lo ρ μ).bind fun lo μ => (evP hi ρ μ).bind fun hi μ => match view x μ with
    | some s => ofNw k (slcT s lo hi) μ
    | none => .bad
  | .att al a, ρ, μ => (evE a ρ μ).bind fun x μ => match view x μ with
    | some (.obj c xs) => match al.lookup c with
      | some p => match xs[p]? with
        | some v => .ok (.t v) μ
        | none => .bad
      | none => .bad
    | _ => .bad
  | .isi cs a, ρ, μ => (evE a ρ μ).bind fun x μ => match view x μ with
    | some s => (ofO (isiAny s cs) μ).bind fun z μ => .ok (.t (.bl z)) μ
    | none => .bad
  | .blt k f es, ρ, μ => (evL es ρ μ).bind fun ws μ => match views ws μ with
    | some vs => ofNw k (bltT f vs) μ
    | none => .bad
  | .bmt k m es, ρ, μ => (evL es ρ μ).bind fun ws μ => match views ws μ with
    | some vs => ofNw k (bmT m vs) μ
    | none => .bad
  | .call k f es, ρ, μ => (evL es ρ μ).bind fun ws μ => evC C k f ws μ
  | .new k c f es, ρ, μ => (evL es ρ μ).bind fun ws μ => evN C k c f ws μ
  | .newV k c f st es kv, ρ, μ => match st with
    | false => (evL es ρ μ).bind fun ws μ => (toTs ws μ).bind fun vs μ => (evE kv ρ μ).bind fun z μ => if vs.length ≤ sizeLine then evN C k c f [z, .t (.tup vs)] μ else .bad
    | true => (evL es ρ μ).bind fun ws μ => (toTs ws μ).bind fun vs μ => (evE kv ρ μ).bind fun z μ => match vs with
      | [v] => match seqT v with
        | some xs => if xs.length ≤ sizeLine then evN C k c f [z, .t (.tup xs)] μ else .bad
        | none => .bad
      | _ => .bad
  | .lenO al e, ρ, μ => (evE e ρ μ).bind fun w μ => match clsOf (view w μ) with
    | some c => match al.lookup c with
      | some f => (evC C false f [w] μ).bind fun r μ => match r with
        | .t (.int n) => if 0 ≤ n ∧ n < 2 ^ 62 then .ok (.t (.int n)) μ else .bad
        | _ => .bad
      | none => .bad
    | none => .bad
  | .mth k al o es, ρ, μ => (evE o ρ μ).bind fun w μ => match clsOf (view w μ) with
    | some c => match al.lookup c with
      | some f => (evL es ρ μ).bind fun ws μ => evC C k f (w :: ws) μ
      | none => .bad
    | none => .bad
  | .comp k dr it tg ifs e, ρ, μ => (evI it ρ μ).bind fun xs μ => (gath (cbody dr (asg tg) (tsAnd ifs) (frE (evE e)) ρ) xs μ).bind fun vs μ => if vs.length ≤ sizeLine then fin k (.c (.lst vs)) μ else .bad
  | .comp2 k dr it tg it2 tg2 ifs e, ρ, μ => (evI it ρ μ).bind fun xs μ => (gath2 (obody dr (tgS tg2) (asg tg) (asg tg2) (evI it2) (tsAnd ifs) (frE (evE e)) ρ) xs μ).bind fun vs μ => if vs.length ≤ sizeLine then fin k (.c (.lst vs)) μ else .bad
  | .dcomp k dr it tg ifs e v, ρ, μ => (evI it ρ μ).bind fun xs μ => (gath (cbody dr (asg tg) (tsAnd ifs) (frP (evE e) (evE v)) ρ) xs μ).bind fun ps μ => KD k [] ps μ
  | .dcomp2 k dr it tg it2 tg2 ifs e v, ρ, μ => (evI it ρ μ).bind fun xs μ => (gath2 (obody dr (tgS tg2) (asg tg) (asg tg2) (evI it2) (tsAnd ifs) (frP (evE e) (evE v)) ρ) xs μ).bind fun ps μ => KD k [] ps μ
  | .fst es, ρ, μ => (evF es Str.empty ρ μ).bind fun x μ => .ok (.t (.str x)) μ
  | .fm f e, ρ, μ => (evE e ρ μ).bind fun x μ => match view x μ with
    | some s => (ofO (fmT f s) μ).bind fun x μ => .ok (.t (.str x)) μ
    | none => .bad
  | .lstg k f es, ρ, μ => (evL es ρ μ).bind fun ws μ => (toTs ws μ).bind fun ts μ => match C.gen f ts with
    | some ys => if ys.length < sizeLine then fin k (.c (.lst ys)) μ else .bad
    | none => .bad
/-- a part of a slice: left out, or an int -/
def evP : Ex → Env → Sto → R (Option Int)
  | .cst .non, _, μ => .ok none μ
  | e, ρ, μ => (evE e ρ μ).bind fun w μ => ofO (prt w) μ
/-- as a test -/
def evT : Ex → Env → Sto → R Bool
  | .nt a, ρ, μ => (evT a ρ μ).bind fun b μ => .ok (!b) μ
  | .and_ as, ρ, μ => tsAnd as ρ μ
  | .or_ as, ρ, μ => tsOr as ρ μ
  | e, ρ, μ => asT (evE e ρ μ)
def evL : List Ex → Env → Sto → R (List W)
  | [], _, μ => .ok [] μ
  | e :: es, ρ, μ => (evE e ρ μ).bind fun w μ => (evL es ρ μ).bind fun ws μ => .ok (w :: ws) μ
/-- an f-string's parts, one behind the other -/
def evF : List Ex → Str → Env → Sto → R Str
  | [], acc, _, μ => .ok acc μ
  | e :: es, acc, ρ, μ => (evE e ρ μ).bind fun w μ => match w with
    | .t (.str y) => if (acc ++ y).length ≤ sizeLine then evF es (acc ++ y) ρ μ else .bad
    | _ => .bad
def evAnd : List Ex → Env → Sto → R W
  | [], _, _ => .bad
  | [e], ρ, μ => evE e ρ μ
  | e :: e' :: es, ρ, μ => (evE e ρ μ).bind fun x μ => match x with
    | .t (.bl true) => evAnd (e' :: es) ρ μ
    | .t (.bl false) => .ok (.t (.bl false)) μ
    | _ => .bad
def evOr : List Ex → Env → Sto → R W
  | [], _, _ => .bad
  | [e], ρ, μ => evE e ρ μ
  | e :: e' :: es, ρ, μ => (evE e ρ μ).bind fun x μ => match x with
    | .t (.bl false) => evOr (e' :: es) ρ μ
    | .t (.bl true) => .ok (.t (.bl true)) μ
    | _ => .bad
def tsAnd : List Ex → Env → Sto → R Bool
  | [], _, μ => .ok true μ
  | e :: es, ρ, μ => (evT e ρ μ).bind fun b μ => match b with
    | true => tsAnd es ρ μ
    | false => .ok false μ
def tsOr : List Ex → Env → Sto → R Bool
  | [], _, μ => .ok false μ
  | e :: es, ρ, μ => (evT e ρ μ).bind fun b μ => match b with
    | true => .ok true μ
    | false => tsOr es ρ μ
/-- what is walked: the items (a cell that is walked becomes part of a tree) -/
def evI : It → Env → Sto → R (List T)
  | .seq e, ρ, μ => (evE e ρ μ).bind fun x μ => (toT x μ).bind fun s μ => ofO (seqT s) μ
  | .rng1 e, ρ, μ => (evE e ρ μ).bind fun x μ => match x with
    | .t (.int j) => if -(2 ^ 62) ≤ j ∧ j < 2 ^ 62 then .ok (rangeT 0 j.toNat) μ else .bad
    | _ => .bad
  | .rng2 e f, ρ, μ => (evE e ρ μ).bind fun x μ => (evE f ρ μ).bind fun y μ => match x, y with
    | .t (.int i), .t (.int j) => if -(2 ^ 62) ≤ i ∧ i < 2 ^ 62 ∧ -(2 ^ 62) ≤ j ∧ j < 2 ^ 62 then .ok (rangeT i (j - i).toNat) μ else .bad
    | _, _ => .bad
  | .enum e, ρ, μ => (evE e ρ μ).bind fun x μ => (toT x μ).bind fun s μ => (ofO (seqT s) μ).bind fun xs μ => .ok (enumT 0 xs) μ
  | .zip e f, ρ, μ => (evE e ρ μ).bind fun x μ => (evE f ρ μ).bind fun y μ => (toT x μ).bind fun s μ => (toT y μ).bind fun t μ => match s, t with
    | .lst xs, .lst ys => .ok (pairsT xs ys) μ
    | _, _ => .bad
  | .items e, ρ, μ => (evE e ρ μ).bind fun x μ => (toT x μ).bind fun s μ => match s with
    | .dct ks vs => .ok (pairsT (ks.map keyT) vs) μ
    | _ => .bad
def asg : Tg → W → Env → Sto → R Env
  | .nm i, w, ρ, μ => if i < ρ.length then .ok (ρ.set i (some w)) μ else .bad
  | .tp ts, w, ρ, μ => match view w μ with
    | some (.tup xs) => if xs.length = ts.length then asgs ts (xs.map .t) ρ μ else .bad
    | _ => .bad
  | .sb a i, w, ρ, μ => (evE a ρ μ).bind fun x μ => (evE i ρ μ).bind fun y μ => match view y μ with
    | some t => (toT w μ).bind fun v μ => (setItemC x t v μ).bind fun _ μ => .ok ρ μ
    | none => .bad
def asgs : List Tg → List W → Env → Sto → R Env
  | t :: ts, w :: ws, ρ, μ => (asg t w ρ μ).bind fun ρ μ => asgs ts ws ρ μ
  | [], [], ρ, μ => .ok ρ μ
  | _, _, _, _ => .bad
end

/-- where a statement ends -/
inductive O where
  | nx (ρ : Env) (μ : Sto) | rt (w : W) (μ : Sto) | bk (ρ : Env) (μ : Sto) | ct (ρ : Env) (μ : Sto) | ex (e : T) (μ : Sto) | bad
def R.out {α : Type} (r : R α) (f : α → Sto → O) : O := match r with
  | .ok a μ => f a μ
  | .exc e μ => .ex e μ
  | .bad => .bad
def O.seq (o : O) (f : Env → Sto → O) : O := match o with
  | .nx ρ μ => f ρ μ
  | o => o
def forL (body : T → Env → Sto → O) (dr : List Nat) : List T → Env → Sto → O
  | [], ρ, μ => .nx ρ μ
  | x :: xs, ρ, μ => match body x ρ μ with
    | .nx ρ μ => forL body dr xs (unset ρ dr) μ
    | .ct ρ μ => forL body dr xs (unset ρ dr) μ
    | .bk ρ μ => .nx (unset ρ dr) μ
    | o => o
/-- a walk over a cell's list, which is read anew at each turn -/
def liveIt (en : Bool) (i : Nat) (x : T) : T := match en with
  | true => .tup [.int (i : Int), x]
  | false => x
def lstAt (μ : Sto) (n : Nat) : Option (List T) := match μ[n]? with
  | some ⟨.lst xs, _, _⟩ => some xs
  | _ => none
def forC (body : T → Env → Sto → O) (dr : List Nat) (en : Bool) (n : Nat) : Nat → Nat → Env → Sto → O
  | 0, _, _, _ => .bad
  | f + 1, i, ρ, μ => match lstAt μ n with
    | none => .bad
    | some xs => match xs[i]? with
      | none => .nx ρ μ
      | some x => match body (liveIt en i x) ρ μ with
        | .nx ρ μ => forC body dr en n f (i + 1) (unset ρ dr) μ
        | .ct ρ μ => forC body dr en n f (i + 1) (unset ρ dr) μ
        | .bk ρ μ => .nx (unset ρ dr) μ
        | o => o
def whlL (test : Env → Sto → R Bool) (body : Env → Sto → O) (dr : List Nat) : Nat → Env → Sto → O
  | 0, _, _ => .bad
  | n + 1, ρ, μ => (test ρ μ).out fun b μ => match b with
    | false => .nx ρ μ
    | true => match body ρ μ with
      | .nx ρ μ => whlL test body dr n (unset ρ dr) μ
      | .ct ρ μ => whlL test body dr n (unset ρ dr) μ
      | .bk ρ μ => .nx (unset ρ dr) μ
      | o => o
mutual
def evS : Sm → Env → Sto → O
  | .never, _, _ => .bad
  | .asg tg e, ρ, μ => (evE C e ρ μ).out fun w μ => (asg C tg w ρ μ).out fun ρ μ => .nx ρ μ
  | .par tgs es, ρ, μ => (evL C es ρ μ).out fun ws μ => (asgs C tgs ws ρ μ).out fun ρ μ => .nx ρ μ
  | .atr al a e, ρ, μ => (evE C e ρ μ).out fun w μ => (evE C a ρ μ).out fun x μ => (toT w μ).out fun v μ => match cellOf x μ with
    | some (n, .obj c xs) => match al.lookup c with
      | some p => if p < xs.length then (setC n (.obj c (xs.set p v)) μ).out fun _ μ => .nx ρ μ
        else if p = xs.length then (setC n (.obj c (xs ++ [v])) μ).out fun _ μ => .nx ρ μ else .bad
      | none => .bad
    | _ => .bad
  | .app a e, ρ, μ => (evE C a ρ μ).out fun x μ => if isLstC x μ = true then (evE C e ρ μ).out fun w μ => (toT w μ).out fun v μ => match cellOf x μ with
    | some (n, .lst xs) => if xs.length < sizeLine then (setC n (.lst (xs ++ [v])) μ).out fun _ μ => .nx ρ μ else .bad
    | _ => .bad
    else .bad
  | .ex e, ρ, μ => (evE C e ρ μ).out fun _ μ => .nx ρ μ
  | .ret e, ρ, μ => (evE C e ρ μ).out fun w μ => .rt w μ
  | .ret0, _, μ => .rt (.t .non) μ
  | .ife c a b, ρ, μ => (evT C c ρ μ).out fun z μ => match z with
    | true => evSs a ρ μ
    | false => evSs b ρ μ
  | .whl dr c b, ρ, μ => whlL (evT C c) (evSs b) dr C.fuel ρ μ
  | .for_ dr it tg b, ρ, μ => (evI C it ρ μ).out fun xs μ => forL (fun x ρ μ => (asg C tg (.t x) ρ μ).out fun ρ μ => evSs b ρ μ) dr xs ρ μ
  | .forg dr f es tg b, ρ, μ => (evL C es ρ μ).out fun ws μ => (toTs ws μ).out fun ts μ => match C.gen f ts with
    | some ys => forL (fun x ρ μ => (asg C tg (.t x) ρ μ).out fun ρ μ => evSs b ρ μ) dr ys ρ μ
    | none => .bad
  | .forc dr en e tg b, ρ, μ => (evE C e ρ μ).out fun w μ => match w with
    | .loc n => forC (fun x ρ μ => (asg C tg (.t x) ρ μ).out fun ρ μ => evSs b ρ μ) dr en n C.fuel 0 ρ μ
    | .t _ => .bad
  | .brk, ρ, μ => .bk ρ μ
  | .cnt, ρ, μ => .ct ρ μ
  | .pas, ρ, μ => .nx ρ μ
def evSs : List Sm → Env → Sto → O
  | [], ρ, μ => .nx ρ μ
  | s :: ss, ρ, μ => (evS s ρ μ).seq fun ρ μ => evSs ss ρ μ
end
end

/-! ### defs -/
structure FD where
  np : Nat
  nl : Nat
  body : List Sm
def entry : Nat → List Ar → Env × Sto
  | _, [] => ([], [])
  | n, .t v :: as => ((some (.t v)) :: (entry n as).1, (entry n as).2)
  | n, .c x :: as => ((some (.loc n)) :: (entry (n + 1) as).1, ⟨x, false, false⟩ :: (entry (n + 1) as).2)
def outsOf (k : Nat) (μ : Sto) : List (Cell × Bool) := (μ.take k).map fun e => (e.c, e.fz)
def handB (k : Nat) (w : W) (μ : Sto) : CR := match w with
  | .t v => .ok (.t v) (outsOf k μ)
  | .loc n => match μ[n]? with
    | some e => if n < k ∨ e.fz = true then .ok (.t e.c.tree) (outsOf k (μ.set n ⟨e.c, e.lk, true⟩)) else .ok (.c e.c) (outsOf k μ)
    | none => .bad
def runD (C : Ctx) (d : FD) (as : List Ar) : CR :=
  if as.length = d.np then
    let k := (entry 0 as).2.length
    match evSs C d.body ((entry 0 as).1 ++ List.replicate (d.nl - d.np) none) (entry 0 as).2 with
    | .nx _ μ => .ok (.t .non) (outsOf k μ)
    | .rt w μ => handB k w μ
    | .ex e μ => .exc e (outsOf k μ)
    | _ => .bad
  else .bad
/-! ### generators -/
inductive Gm where
  | yld (e : Ex)
  | ife (c : Ex) (a b : List Gm)
  | for_ (dr : List Nat) (it : It) (tg : Tg) (b : List Gm)
  | pl (s : Sm)
abbrev GO := List T × O
def GO.pre (ys : List T) (r : GO) : GO := (ys ++ r.1, r.2)
def R.outG {α : Type} (r : R α) (f : α → Sto → GO) : GO := match r with
  | .ok a μ => f a μ
  | .exc e μ => ([], .ex e μ)
  | .bad => ([], .bad)
/-- no cell came of it -/
def R.out0 {α : Type} (r : R α) (f : α → GO) : GO := match r with
  | .ok a [] => f a
  | .ok _ (_ :: _) => ([], .bad)
  | .exc _ _ => ([], .bad)
  | .bad => ([], .bad)
def seq0 (r : GO) (f : Env → GO) : GO := match r.2 with
  | .nx ρ [] => (f ρ).pre r.1
  | .nx _ (_ :: _) => ([], .bad)
  | _ => r
def forG (F : T → Env → GO) (dr : List Nat) : List T → Env → GO
  | [], ρ => ([], .nx ρ [])
  | x :: xs, ρ => match (F x ρ).2 with
    | .nx ρ' [] => (forG F dr xs (unset ρ' dr)).pre (F x ρ).1
    | .ct ρ' [] => (forG F dr xs (unset ρ' dr)).pre (F x ρ).1
    | .bk ρ' [] => ((F x ρ).1, .nx (unset ρ' dr) [])
    | _ => ([], .bad)
mutual
def evG (C : Ctx) : Gm → Env → GO
  | .yld e, ρ => (evE C e ρ []).outG fun w μ => (toT w μ).outG fun t μ => ([t], .nx ρ μ)
  | .ife c a b, ρ => (evT C c ρ []).out0 fun z => match z with
    | true => evGs C a ρ
    | false => evGs C b ρ
  | .for_ dr it tg b, ρ => (evI C it ρ []).out0 fun xs => forG (fun x ρ => (asg C tg (.t x) ρ []).out0 fun ρ => evGs C b ρ) dr xs ρ
  | .pl s, ρ => ([], evS C s ρ [])
def evGs (C : Ctx) : List Gm → Env → GO
  | [], ρ => ([], .nx ρ [])
  | s :: ss, ρ => seq0 (evG C s ρ) fun ρ => evGs C ss ρ
end
/-- a generator's def -/
structure GD where
  np : Nat
  nl : Nat
  body : List Gm
def runG (C : Ctx) (d : GD) (ts : List T) : Option (List T) :=
  if ts.length = d.np then match evGs C d.body (ts.map (fun t => some (.t t)) ++ List.replicate (d.nl - d.np) none) with
    | (ys, .nx _ []) => some ys
    | _ => none
  else none
/-- calls n deep: a body there sees the calls of the level below; a generator's body, which runs deeper, those of two levels below -/
def lv (P : Nat → Option FD) (GP : Nat → Option GD) (F : Nat) (G : List T) : Nat → Ctx
  | 0 => ⟨fun _ _ => .bad, F, G, fun _ _ => none⟩
  | 1 => ⟨fun f as => match P f with
      | some d => runD ⟨fun _ _ => .bad, F, G, fun _ _ => none⟩ d as
      | none => .bad, F, G, fun _ _ => none⟩
  | n + 2 => ⟨fun f as => match P f with
      | some d => runD (lv P GP F G (n + 1)) d as
      | none => .bad, F, G, fun f ts => match GP f with
      | some d => runG { lv P GP F G n with gen := fun _ _ => none } d ts
      | none => none⟩
theorem lv_call (P : Nat → Option FD) (GP : Nat → Option GD) (F : Nat) (G : List T) (n f : Nat) (as : List Ar) : (lv P GP F G (n + 1)).call f as = match P f with
      | some d => runD (lv P GP F G n) d as
      | none => .bad := by cases n <;> rfl
theorem lv_glb (P : Nat → Option FD) (GP : Nat → Option GD) (F : Nat) (G : List T) (n : Nat) : (lv P GP F G n).glb = G := by
  match n with
  | 0 => rfl
  | 1 => rfl
  | _ + 2 => rfl
theorem lv_fuel (P : Nat → Option FD) (GP : Nat → Option GD) (F : Nat) (G : List T) (n : Nat) : (lv P GP F G n).fuel = F := by
  match n with
  | 0 => rfl
  | 1 => rfl
  | _ + 2 => rfl
end Sy
end

section
set_option Elab.async false
set_option linter.all false
set_option maxRecDepth 100000
/-! SyB: how trees and cells lie in the hand layer's heap. -/
namespace Sy
open PySem L2

/-- the heap, what is locked as it is below -/
def strip (H : Hp) : Hp := fun a => match H a with
  | some (.frz _ u) => some u
  | x => x
def noFrz : HO → Prop
  | .frz _ _ => False
  | _ => True
theorem strip_of {H : Hp} {a : Addr} {u : HO} (h : H a = some u) (n : noFrz u) : strip H a = some u := by
  unfold strip
  rw [h]
  cases u <;> first | rfl | exact absurd n id
theorem strip_frz {H : Hp} {a : Addr} {o : Obj} {u : HO} (h : H a = some (.frz o u)) : strip H a = some u := by
  unfold strip
  rw [h]
theorem strip_none {H : Hp} {a : Addr} : strip H a = none ↔ H a = none := by
  unfold strip
  cases h : H a with
  | none => simp
  | some u => cases u <;> simp
theorem rd_of {H : Hp} {a : Addr} {u : HO} (h : strip H a = some u) : Rd H a u := by
  unfold strip at h
  cases e : H a with
  | none => rw [e] at h; cases h
  | some w =>
    rw [e] at h
    cases w <;> first | (cases h; exact .inl e) | (cases h; exact .inr ⟨_, e⟩)
theorem strip_upd {H : Hp} {p : Addr} {o : HO} (n : noFrz o) : strip (upd H p o) = upd (strip H) p o := by
  funext a
  by_cases h : a = p
  · subst h
    rw [upd_same, strip_of upd_same n]
  · rw [upd_ne h]
    unfold strip
    rw [upd_ne h]
theorem strip_lock {H : Hp} {p : Addr} {o : Obj} {u : HO} (h : strip H p = some u) : strip (upd H p (.frz o u)) = strip H := by
  funext a
  by_cases e : a = p
  · subst e
    rw [strip_frz upd_same, h]
  · unfold strip
    rw [upd_ne e]

/-- what the text gives: the classes' places, the names of their attributes in the order in which __init__ lays them -/
structure Tx where
  K : PySem.W.Frag
  n : Nat
  C : Nat → Addr
  at_ : Nat → List Str
def KTup (K : PySem.W.Frag) (a : Addr) (xs : List V) : Prop := ∃ (o : Obj) (its : Array Value) (n : Nat), K.lookup a = some o ∧ o.cls = .type "tuple" ∧ o.data = .seq its n ∧ its.size ≤ sizeLine ∧ Vals xs its.toList
/-- a dict's content -/
def DctO (ks : List DK) (vs : List V) (o : HO) : Prop := ∃ kvs : List (Key × V), o = .dK kvs ∧ ks = kvs.map (·.1) ∧ vs = kvs.map (·.2)
section
variable (Γ : Tx) (Z : Addr → Prop) (S : Hp)
mutual
def Rep : T → V → Prop
  | .non, v => v = .non
  | .bl b, v => v = .bl b
  | .int i, v => v = .int i
  | .str x, v => v = .str x
  | .tup ts, v => ∃ a vs, v = .ref a ∧ ((Z a ∧ S a = some (.tup vs)) ∨ KTup Γ.K a vs) ∧ Reps ts vs
  | .lst ts, v => ∃ a vs, v = .ref a ∧ Z a ∧ S a = some (.lst vs) ∧ Reps ts vs
  | .dct ks ts, v => ∃ a o vs, v = .ref a ∧ Z a ∧ S a = some o ∧ DctO ks vs o ∧ Reps ts vs
  | .obj c ts, v => c < Γ.n ∧ ∃ a dx fs, v = .ref a ∧ Z a ∧ S a = some (.ins (Γ.C c) dx fs) ∧ fs.map (·.1) = (Γ.at_ c).take ts.length ∧ Reps ts (fs.map (·.2))
  | .fn _, _ => False
def Reps : List T → List V → Prop
  | [], vs => vs = []
  | t :: ts, vs => ∃ v vs', vs = v :: vs' ∧ Rep t v ∧ Reps ts vs'
end
/-- it looks so now -/
def Vu : T → V → Prop
  | .lst ts, v => ∃ a vs, v = .ref a ∧ S a = some (.lst vs) ∧ Reps Γ Z S ts vs
  | .dct ks ts, v => ∃ a o vs, v = .ref a ∧ S a = some o ∧ DctO ks vs o ∧ Reps Γ Z S ts vs
  | .obj c ts, v => c < Γ.n ∧ ∃ a dx fs, v = .ref a ∧ S a = some (.ins (Γ.C c) dx fs) ∧ fs.map (·.1) = (Γ.at_ c).take ts.length ∧ Reps Γ Z S ts (fs.map (·.2))
  | t, v => Rep Γ Z S t v
/-- what a cell's object holds -/
def COb : Cell → HO → Prop
  | .lst ts, o => ∃ vs, o = .lst vs ∧ Reps Γ Z S ts vs
  | .dct ks ts, o => ∃ vs, DctO ks vs o ∧ Reps Γ Z S ts vs
  | .obj c ts, o => c < Γ.n ∧ ∃ dx fs, o = .ins (Γ.C c) dx fs ∧ fs.map (·.1) = (Γ.at_ c).take ts.length ∧ Reps Γ Z S ts (fs.map (·.2))
end
section
variable {Γ : Tx} {Z Z' : Addr → Prop} {S S' : Hp}
theorem Reps.length : ∀ {ts : List T} {vs : List V}, Reps Γ Z S ts vs → ts.length = vs.length
  | [], vs, h => by
    have h : vs = [] := by simpa [Reps] using h
    subst h; rfl
  | t :: ts, vs, h => by
    obtain ⟨v, vs', e, _, h2⟩ := (show ∃ v vs', vs = v :: vs' ∧ Rep Γ Z S t v ∧ Reps Γ Z S ts vs' by simpa [Reps] using h)
    subst e
    show ts.length + 1 = vs'.length + 1
    rw [Reps.length h2]
theorem reps_nil {vs : List V} : Reps Γ Z S [] vs ↔ vs = [] := by simp [Reps]
theorem reps_cons {t : T} {ts : List T} {vs : List V} : Reps Γ Z S (t :: ts) vs ↔ ∃ v vs', vs = v :: vs' ∧ Rep Γ Z S t v ∧ Reps Γ Z S ts vs' := by simp [Reps]
theorem Reps.cons {t : T} {ts : List T} {v : V} {vs : List V} (h : Rep Γ Z S t v) (hs : Reps Γ Z S ts vs) : Reps Γ Z S (t :: ts) (v :: vs) := reps_cons.mpr ⟨v, vs, rfl, h, hs⟩
mutual
theorem Rep.mono (hz : ∀ a, Z a → Z' a) (hs : ∀ a, Z a → S' a = S a) : ∀ (t : T) (v : V), Rep Γ Z S t v → Rep Γ Z' S' t v
  | .non, v, h => by simpa [Rep] using h
  | .bl b, v, h => by simpa [Rep] using h
  | .int i, v, h => by simpa [Rep] using h
  | .str x, v, h => by simpa [Rep] using h
  | .tup ts, v, h => by
    simp only [Rep] at h ⊢
    obtain ⟨a, vs, e, h1, h2⟩ := h
    exact ⟨a, vs, e, h1.imp (fun ⟨x, y⟩ => ⟨hz a x, (hs a x).trans y⟩) id, Reps.mono hz hs ts vs h2⟩
  | .lst ts, v, h => by
    simp only [Rep] at h ⊢
    obtain ⟨a, vs, e, z, h1, h2⟩ := h
    exact ⟨a, vs, e, hz a z, (hs a z).trans h1, Reps.mono hz hs ts vs h2⟩
  | .dct ks ts, v, h => by
    simp only [Rep] at h ⊢
    obtain ⟨a, o, vs, e, z, h1, h2, h3⟩ := h
    exact ⟨a, o, vs, e, hz a z, (hs a z).trans h1, h2, Reps.mono hz hs ts vs h3⟩
  | .obj c ts, v, h => by
    simp only [Rep] at h ⊢
    obtain ⟨hc, a, dx, fs, e, z, h1, h2, h3⟩ := h
    exact ⟨hc, a, dx, fs, e, hz a z, (hs a z).trans h1, h2, Reps.mono hz hs ts _ h3⟩
  | .fn f, v, h => by simp [Rep] at h
theorem Reps.mono (hz : ∀ a, Z a → Z' a) (hs : ∀ a, Z a → S' a = S a) : ∀ (ts : List T) (vs : List V), Reps Γ Z S ts vs → Reps Γ Z' S' ts vs
  | [], vs, h => by simpa [Reps] using h
  | t :: ts, vs, h => by
    simp only [Reps] at h ⊢
    obtain ⟨v, vs', e, h1, h2⟩ := h
    exact ⟨v, vs', e, Rep.mono hz hs t v h1, Reps.mono hz hs ts vs' h2⟩
end
theorem Rep.vu : ∀ {t : T} {v : V}, Rep Γ Z S t v → Vu Γ Z S t v
  | .non, v, h => h
  | .bl b, v, h => h
  | .int i, v, h => h
  | .str x, v, h => h
  | .tup ts, v, h => h
  | .lst ts, v, h => by
    simp only [Rep] at h
    obtain ⟨a, vs, e, z, h1, h2⟩ := h
    exact ⟨a, vs, e, h1, h2⟩
  | .dct ks ts, v, h => by
    simp only [Rep] at h
    obtain ⟨a, o, vs, e, z, h1, h2, h3⟩ := h
    exact ⟨a, o, vs, e, h1, h2, h3⟩
  | .obj c ts, v, h => by
    simp only [Rep] at h
    obtain ⟨hc, a, dx, fs, e, z, h1, h2, h3⟩ := h
    exact ⟨hc, a, dx, fs, e, h1, h2, h3⟩
  | .fn f, v, h => h
theorem COb.mono (hz : ∀ a, Z a → Z' a) (hs : ∀ a, Z a → S' a = S a) {c : Cell} {o : HO} (h : COb Γ Z S c o) : COb Γ Z' S' c o := by
  cases c with
  | lst ts => obtain ⟨vs, e, r⟩ := h; exact ⟨vs, e, Reps.mono hz hs _ _ r⟩
  | dct ks ts => obtain ⟨vs, e, r⟩ := h; exact ⟨vs, e, Reps.mono hz hs _ _ r⟩
  | obj c ts => obtain ⟨hc, dx, fs, e, n, r⟩ := h; exact ⟨hc, dx, fs, e, n, Reps.mono hz hs _ _ r⟩
theorem COb.noFrz {c : Cell} {o : HO} (h : COb Γ Z S c o) : noFrz o := by
  cases c with
  | lst ts => obtain ⟨vs, e, r⟩ := h; subst e; trivial
  | dct ks ts => obtain ⟨vs, ⟨kvs, e, _⟩, r⟩ := h; subst e; trivial
  | obj c ts => obtain ⟨hc, dx, fs, e, n, r⟩ := h; subst e; trivial
theorem COb.vu {c : Cell} {o : HO} {a : Addr} (h : COb Γ Z S c o) (ha : S a = some o) : Vu Γ Z S c.tree (.ref a) := by
  cases c with
  | lst ts => obtain ⟨vs, e, r⟩ := h; subst e; exact ⟨a, vs, rfl, ha, r⟩
  | dct ks ts => obtain ⟨vs, e, r⟩ := h; exact ⟨a, o, vs, rfl, ha, e, r⟩
  | obj c ts => obtain ⟨hc, dx, fs, e, n, r⟩ := h; subst e; exact ⟨hc, a, dx, fs, rfl, ha, n, r⟩
theorem COb.rep {c : Cell} {o : HO} {a : Addr} (h : COb Γ Z S c o) (ha : S a = some o) (z : Z a) : Rep Γ Z S c.tree (.ref a) := by
  cases c with
  | lst ts => obtain ⟨vs, e, r⟩ := h; subst e; simp only [Cell.tree, Rep]; exact ⟨a, vs, rfl, z, ha, r⟩
  | dct ks ts => obtain ⟨vs, e, r⟩ := h; simp only [Cell.tree, Rep]; exact ⟨a, o, vs, rfl, z, ha, e, r⟩
  | obj c ts => obtain ⟨hc, dx, fs, e, n, r⟩ := h; subst e; simp only [Cell.tree, Rep]; exact ⟨hc, a, dx, fs, rfl, z, ha, n, r⟩

/-! ### the state -/
def RepW (Γ : Tx) (Z : Addr → Prop) (ad : List Addr) (S : Hp) : W → V → Prop
  | .t t, v => Rep Γ Z S t v
  | .loc n, v => ∃ a, ad[n]? = some a ∧ v = .ref a
def notIns : HO → Prop
  | .ins _ _ _ => False
  | _ => True
/-- an object of the def's own: its cell, its marks -/
structure Cel (Γ : Tx) (Z : Addr → Prop) (H : Hp) (a : Addr) (e : En) : Prop where
  ob : ∃ o, strip H a = some o ∧ COb Γ Z (strip H) e.c o
  fz : e.fz = true ↔ Z a
  op : e.fz = false → strip H a = H a
structure Ste (Γ : Tx) (Z : Addr → Prop) (ad : List Addr) (μ : Sto) (H : Hp) : Prop where
  len : ad.length = μ.length
  nd : ad.Nodup
  zd : ∀ a, Z a → H a ≠ none
  nf : ∀ a o u, H a = some (.frz o u) → noFrz u ∧ notIns u
  cel : ∀ (n : Nat) (a : Addr) (e : En), ad[n]? = some a → μ[n]? = some e → Cel Γ Z H a e
structure Ext (Z : Addr → Prop) (ad : List Addr) (H : Hp) (Z' : Addr → Prop) (ad' : List Addr) (H' : Hp) : Prop where
  fr : ∀ a o, H a = some o → a ∉ ad → ¬ Z a → H' a = some o
  zs : ∀ a, Z a → Z' a
  zk : ∀ a, Z a → strip H' a = strip H a
  ap : ∃ r, ad' = ad ++ r ∧ ∀ a ∈ r, H a = none
  nz : ∀ a, Z' a → Z a ∨ a ∈ ad ∨ H a = none
  dm : ∀ a ∈ ad, H' a ≠ none
  lz : ∀ a o u, H a = some (.frz o u) → H' a = some (.frz o u)
structure Slo (Γ : Tx) (Z : Addr → Prop) (ad : List Addr) (ρ : Env) (σ : St) (H : Hp) : Prop where
  len : ρ.length = σ.length
  sl : ∀ (i : Nat) (w : W), ρ[i]? = some (some w) → ∃ v, σ[i]? = some (some v) ∧ RepW Γ Z ad (strip H) w v
variable {ad ad' ad1 ad2 : List Addr} {μ μ' : Sto} {H H' H1 H2 : Hp} {Z1 Z2 : Addr → Prop}
theorem Ste.dom (s : Ste Γ Z ad μ H) {a : Addr} (h : a ∈ ad) : H a ≠ none := by
  obtain ⟨n, hn, e⟩ := List.getElem_of_mem h
  have h1 : ad[n]? = some a := by rw [List.getElem?_eq_getElem hn, e]
  have hm : n < μ.length := by rw [← s.len]; exact hn
  obtain ⟨o, h2, _⟩ := (s.cel n a μ[n] h1 (List.getElem?_eq_getElem hm)).ob
  intro z
  rw [strip_none.mpr z] at h2
  cases h2
theorem Ext.refl (s : Ste Γ Z ad μ H) : Ext Z ad H Z ad H :=
  ⟨fun _ _ h _ _ => h, fun _ h => h, fun _ _ => rfl, ⟨[], by simp, fun _ h => by simp at h⟩, fun _ h => .inl h, fun _ h => s.dom h, fun _ _ _ h => h⟩
theorem Ext.trans (x : Ext Z ad H Z1 ad1 H1) (y : Ext Z1 ad1 H1 Z2 ad2 H2) : Ext Z ad H Z2 ad2 H2 := by
  obtain ⟨r, e1, n1⟩ := x.ap
  obtain ⟨r2, e2, n2⟩ := y.ap
  have back : ∀ a, H1 a = none → H a = none ∨ a ∈ ad := fun a h => by
    cases e : H a with
    | none => exact .inl rfl
    | some o =>
      by_cases ha : a ∈ ad
      · exact .inr ha
      · by_cases hz : Z a
        · have := x.zk a hz
          rw [strip_none.mpr h] at this
          rw [strip_none.mp this.symm] at e
          cases e
        · rw [x.fr a o e ha hz] at h; cases h
  refine ⟨fun a o h ha hz => y.fr a o (x.fr a o h ha hz) ?_ ?_, fun a h => y.zs a (x.zs a h), fun a h => (y.zk a (x.zs a h)).trans (x.zk a h), ⟨r ++ r2, by rw [e2, e1, List.append_assoc], fun a h => ?_⟩, fun a h => ?_, fun a h => y.dm a ?_, fun a o u h => y.lz a o u (x.lz a o u h)⟩
  · rw [e1, List.mem_append]
    rintro (z | z)
    · exact ha z
    · rw [n1 a z] at h; cases h
  · intro z
    rcases x.nz a z with z | z | z
    · exact hz z
    · exact ha z
    · rw [z] at h; cases h
  · rcases List.mem_append.mp h with h | h
    · exact n1 a h
    · rcases back a (n2 a h) with z | z
      · exact z
      · exact absurd (n2 a h) (x.dm a z)
  · rcases y.nz a h with h | h | h
    · exact x.nz a h
    · rw [e1] at h
      rcases List.mem_append.mp h with h | h
      · exact .inr (.inl h)
      · exact .inr (.inr (n1 a h))
    · rcases back a h with z | z
      · exact .inr (.inr z)
      · exact .inr (.inl z)
  · rw [e1]; exact List.mem_append_left _ h
theorem Ext.rep (x : Ext Z ad H Z' ad' H') {t : T} {v : V} (h : Rep Γ Z (strip H) t v) : Rep Γ Z' (strip H') t v := Rep.mono x.zs x.zk t v h
theorem Ext.reps (x : Ext Z ad H Z' ad' H') {t : List T} {v : List V} (h : Reps Γ Z (strip H) t v) : Reps Γ Z' (strip H') t v := Reps.mono x.zs x.zk t v h
theorem Ext.cob (x : Ext Z ad H Z' ad' H') {c : Cell} {o : HO} (h : COb Γ Z (strip H) c o) : COb Γ Z' (strip H') c o := h.mono x.zs x.zk
theorem Ext.adr (x : Ext Z ad H Z' ad' H') {n : Nat} {a : Addr} (h : ad[n]? = some a) : ad'[n]? = some a := by
  obtain ⟨r, e, _⟩ := x.ap
  rw [e, List.getElem?_append_left (List.getElem?_eq_some_iff.mp h).1]
  exact h
theorem Ext.repW (x : Ext Z ad H Z' ad' H') {w : W} {v : V} (h : RepW Γ Z ad (strip H) w v) : RepW Γ Z' ad' (strip H') w v := by
  cases w with
  | t t => exact x.rep h
  | loc n => obtain ⟨a, h1, h2⟩ := h; exact ⟨a, x.adr h1, h2⟩
theorem Slo.ext {ρ : Env} {σ : St} (s : Slo Γ Z ad ρ σ H) (x : Ext Z ad H Z' ad' H') : Slo Γ Z' ad' ρ σ H' :=
  ⟨s.len, fun i w h => let ⟨v, h1, h2⟩ := s.sl i w h; ⟨v, h1, x.repW h2⟩⟩
/-- what a name's value looks like now -/
theorem view_vu (s : Ste Γ Z ad μ H) {w : W} {v : V} {t : T} (h : RepW Γ Z ad (strip H) w v) (e : view w μ = some t) : Vu Γ Z (strip H) t v := by
  cases w with
  | t u =>
    have e' : u = t := Option.some.inj e
    subst e'
    exact Rep.vu h
  | loc n =>
    obtain ⟨a, h1, rfl⟩ := h
    have e' : (match μ[n]? with | some e => some e.c.tree | none => none) = some t := e
    cases q : μ[n]? with
    | none => rw [q] at e'; cases e'
    | some en =>
      rw [q] at e'
      cases e'
      obtain ⟨o, ho, hc⟩ := (s.cel n a en h1 q).ob
      exact hc.vu ho
end
end Sy
end

section
set_option Elab.async false
set_option linter.all false
set_option maxRecDepth 100000
/-! SyC: what changes in the state: new objects, stores, freezing, locks. -/
namespace Sy
open PySem L2
section
variable {Γ : Tx} {Z Z' : Addr → Prop} {ad : List Addr} {μ : Sto} {H : Hp} {p a : Addr} {o : HO}
theorem strip_ne {b : Addr} (n : noFrz o) (h : b ≠ p) : strip (upd H p o) b = strip H b := by rw [strip_upd n, upd_ne h]
theorem strip_at (n : noFrz o) : strip (upd H p o) p = some o := by rw [strip_upd n, upd_same]
theorem strip_noFrz {u : HO} (nf : ∀ a o u, H a = some (.frz o u) → noFrz u ∧ notIns u) (h : strip H a = some u) : noFrz u := by
  rcases rd_of h with q | ⟨o, q⟩
  · unfold strip at h
    rw [q] at h
    cases u <;> first | trivial | skip
    rename_i o v
    have h : some v = some (HO.frz o v) := h
    have := (nf a o v q).1
    rw [Option.some.inj h] at this
    exact this
  · exact (nf a o u q).1
/-- one more object at p, which is of no cell; it may be of a tree (Z') -/
theorem Ste.grow (s : Ste Γ Z ad μ H) (hp : H p = none) (n : noFrz o) (hz : ∀ b, Z' b ↔ Z b ∨ (b = p ∧ Z' p)) : Ste Γ Z' ad μ (upd H p o) ∧ Ext Z ad H Z' ad (upd H p o) := by
  have npa : ∀ b ∈ ad, b ≠ p := fun b hb e => s.dom hb (e ▸ hp)
  have npz : ∀ b, Z b → b ≠ p := fun b hb e => s.zd b hb (e ▸ hp)
  have zs : ∀ b, Z b → Z' b := fun b h => (hz b).mpr (.inl h)
  have zk : ∀ b, Z b → strip (upd H p o) b = strip H b := fun b h => strip_ne n (npz b h)
  refine ⟨⟨s.len, s.nd, fun b h => ?_, fun b ob u e => ?_, fun i b e h1 h2 => ?_⟩, ⟨fun b ob h _ _ => ?_, zs, zk, ⟨[], by simp, fun _ h => by simp at h⟩, fun b h => ?_, fun b h => ?_, fun b ob u h => by rw [upd_ne (fun e => by rw [e, hp] at h; cases h)]; exact h⟩⟩
  · rcases (hz b).mp h with h | ⟨h, _⟩
    · rw [upd_ne (npz b h)]; exact s.zd b h
    · rw [h, upd_same]; exact fun z => by cases z
  · by_cases hb : b = p
    · rw [hb, upd_same] at e
      cases e
      exact absurd n id
    · rw [upd_ne hb] at e; exact s.nf b ob u e
  · have hb := npa b (List.mem_of_getElem? h1)
    obtain ⟨⟨o', k1, k2⟩, k3, k4⟩ := s.cel i b e h1 h2
    refine ⟨⟨o', by rw [strip_ne n hb]; exact k1, k2.mono zs zk⟩, k3.trans ⟨zs b, fun h => ?_⟩, fun f1 => by rw [strip_ne n hb, upd_ne hb]; exact k4 f1⟩
    rcases (hz b).mp h with h | ⟨h, _⟩
    · exact h
    · exact absurd h hb
  · have hb : b ≠ p := fun e => by rw [e, hp] at h; cases h
    rw [upd_ne hb]; exact h
  · rcases (hz b).mp h with h | ⟨h, _⟩
    · exact .inl h
    · exact .inr (.inr (h ▸ hp))
  · rw [upd_ne (npa b h)]; exact s.dom h
/-- one more object, of no use -/
theorem Ste.waste (s : Ste Γ Z ad μ H) (hp : H p = none) (n : noFrz o) : Ste Γ Z ad μ (upd H p o) ∧ Ext Z ad H Z ad (upd H p o) :=
  s.grow hp n fun b => ⟨.inl, fun h => h.elim id fun ⟨e, z⟩ => e ▸ z⟩
/-- one more object, part of a tree -/
def Zp (Z : Addr → Prop) (p : Addr) : Addr → Prop := fun b => Z b ∨ b = p
theorem Ste.tree (s : Ste Γ Z ad μ H) (hp : H p = none) (n : noFrz o) : Ste Γ (Zp Z p) ad μ (upd H p o) ∧ Ext Z ad H (Zp Z p) ad (upd H p o) :=
  s.grow hp n fun b => ⟨fun h => h.elim .inl fun e => .inr ⟨e, .inr rfl⟩, fun h => h.elim .inl fun ⟨e, _⟩ => .inr e⟩
/-- a new cell -/
theorem Ste.cell (s : Ste Γ Z ad μ H) (hp : H p = none) {c : Cell} (h : COb Γ Z (strip H) c o) : Ste Γ Z (ad ++ [p]) (μ ++ [⟨c, false, false⟩]) (upd H p o) ∧ Ext Z ad H Z (ad ++ [p]) (upd H p o) := by
  have n := h.noFrz
  obtain ⟨s1, x1⟩ := s.waste (o := o) hp n
  have pz : ¬ Z p := fun z => s.zd p z hp
  refine ⟨⟨by rw [List.length_append, List.length_append, s.len]; rfl, ?_, s1.zd, s1.nf, fun i b e h1 h2 => ?_⟩, ⟨x1.fr, x1.zs, x1.zk, ⟨[p], rfl, fun b hb => ?_⟩, x1.nz, x1.dm, x1.lz⟩⟩
  · refine List.nodup_append.mpr ⟨s.nd, by simp, fun b hb c hc => ?_⟩
    have : c = p := by simpa using hc
    subst this
    exact fun e => s.dom hb (e ▸ hp)
  · by_cases hi : i < ad.length
    · rw [List.getElem?_append_left hi] at h1
      rw [List.getElem?_append_left (by rw [← s.len]; exact hi)] at h2
      exact s1.cel i b e h1 h2
    · rw [List.getElem?_append_right (by omega)] at h1
      rw [List.getElem?_append_right (by rw [← s.len]; omega)] at h2
      have e0 : i - ad.length = 0 := by
        have := (List.getElem?_eq_some_iff.mp h1).1
        simp at this; omega
      rw [e0] at h1
      rw [← s.len, e0] at h2
      have hb : p = b := by simpa using h1
      have he : (⟨c, false, false⟩ : En) = e := by simpa using h2
      subst hb he
      exact ⟨⟨o, strip_at n, h.mono x1.zs x1.zk⟩, ⟨fun z => (by cases z), fun z => absurd z pz⟩, fun _ => by rw [strip_at n, upd_same]⟩
  · have : b = p := by simpa using hb
    subst this; exact hp
theorem nodup_ixA {l : List Addr} (hN : l.Nodup) {i j : Nat} {x : Addr} (a : l[i]? = some x) (b : l[j]? = some x) : i = j := by
  obtain ⟨h1, e1⟩ := List.getElem?_eq_some_iff.mp a
  obtain ⟨h2, e2⟩ := List.getElem?_eq_some_iff.mp b
  exact (List.getElem_inj hN).mp (e1.trans e2.symm)
/-- a cell becomes part of a tree -/
theorem Ste.freeze (s : Ste Γ Z ad μ H) {n : Nat} {e : En} (h1 : ad[n]? = some a) (h2 : μ[n]? = some e) : Ste Γ (Zp Z a) ad (μ.set n ⟨e.c, e.lk, true⟩) H ∧ Ext Z ad H (Zp Z a) ad H := by
  have ha : a ∈ ad := List.mem_of_getElem? h1
  have zs : ∀ b, Z b → Zp Z a b := fun b => .inl
  refine ⟨⟨by rw [List.length_set]; exact s.len, s.nd, fun b h => ?_, s.nf, fun i b e' k1 k2 => ?_⟩, ⟨fun _ _ h _ _ => h, zs, fun _ _ => rfl, ⟨[], by simp, fun _ h => by simp at h⟩, fun b h => h.elim .inl (fun h => .inr (.inl (by rw [h]; exact ha))), fun b h => s.dom h, fun _ _ _ h => h⟩⟩
  · rcases h with h | h
    · exact s.zd b h
    · rw [h]; exact s.dom ha
  · by_cases hi : n = i
    · subst hi
      rw [h1] at k1
      have hb : a = b := Option.some.inj k1
      subst hb
      have hl : n < μ.length := (List.getElem?_eq_some_iff.mp h2).1
      rw [List.getElem?_set_self hl] at k2
      have he : (⟨e.c, e.lk, true⟩ : En) = e' := Option.some.inj k2
      subst he
      obtain ⟨⟨o', q1, q2⟩, q3, q4⟩ := s.cel n a e h1 h2
      exact ⟨⟨o', q1, q2.mono zs fun _ _ => rfl⟩, ⟨fun _ => .inr rfl, fun _ => rfl⟩, fun z => by cases z⟩
    · rw [List.getElem?_set_ne hi] at k2
      obtain ⟨⟨o', q1, q2⟩, q3, q4⟩ := s.cel i b e' k1 k2
      refine ⟨⟨o', q1, q2.mono zs fun _ _ => rfl⟩, ⟨fun z => .inl (q3.mp z), fun z => ?_⟩, q4⟩
      rcases z with z | z
      · exact q3.mpr z
      · have hn1 := (List.getElem?_eq_some_iff.mp h1).1
        have hn2 := (List.getElem?_eq_some_iff.mp k1).1
        have : n = i := nodup_ixA s.nd h1 (z ▸ k1)
        exact absurd this hi

/-- a cell's object is changed -/
theorem Ste.write (s : Ste Γ Z ad μ H) {n : Nat} {e : En} {c : Cell} (h1 : ad[n]? = some a) (h2 : μ[n]? = some e) (hl : e.lk = false) (hf : e.fz = false) (h : COb Γ Z (strip H) c o) :
    Ste Γ Z ad (μ.set n ⟨c, false, false⟩) (upd H a o) ∧ Ext Z ad H Z ad (upd H a o) := by
  have nf := h.noFrz
  have ha : a ∈ ad := List.mem_of_getElem? h1
  obtain ⟨_, q3, _⟩ := s.cel n a e h1 h2
  have az : ¬ Z a := fun z => by rw [q3.mpr z] at hf; cases hf
  have zk : ∀ b, Z b → strip (upd H a o) b = strip H b := fun b z => strip_ne nf fun e => az (by rw [← e]; exact z)
  refine ⟨⟨by rw [List.length_set]; exact s.len, s.nd, fun b z => ?_, fun b ob u e => ?_, fun i b e' k1 k2 => ?_⟩, ⟨fun b ob k k' _ => ?_, fun _ z => z, zk, ⟨[], by simp, fun _ h => by simp at h⟩, fun b z => .inl z, fun b k => ?_, fun b ob u k => ?_⟩⟩
  · rw [upd_ne fun e => az (by rw [← e]; exact z)]; exact s.zd b z
  · by_cases hb : b = a
    · rw [hb, upd_same] at e
      cases e
      exact absurd nf id
    · rw [upd_ne hb] at e; exact s.nf b ob u e
  · by_cases hi : n = i
    · subst hi
      rw [h1] at k1
      have hb : a = b := Option.some.inj k1
      subst hb
      rw [List.getElem?_set_self (List.getElem?_eq_some_iff.mp h2).1] at k2
      have he : (⟨c, false, false⟩ : En) = e' := Option.some.inj k2
      subst he
      exact ⟨⟨o, strip_at nf, h.mono (fun _ z => z) zk⟩, ⟨fun z => (by cases z), fun z => absurd z az⟩, fun _ => by rw [strip_at nf, upd_same]⟩
    · rw [List.getElem?_set_ne hi] at k2
      have hb : b ≠ a := fun e => hi (nodup_ixA s.nd h1 (e ▸ k1))
      obtain ⟨⟨o', q1, q2⟩, q3, q4⟩ := s.cel i b e' k1 k2
      exact ⟨⟨o', by rw [strip_ne nf hb]; exact q1, q2.mono (fun _ z => z) zk⟩, q3, fun f1 => by rw [strip_ne nf hb, upd_ne hb]; exact q4 f1⟩
  · rw [upd_ne fun e => k' (by rw [e]; exact ha)]; exact k
  · by_cases hb : b = a
    · rw [hb, upd_same]; exact fun z => by cases z
    · rw [upd_ne hb]; exact s.dom k
  · by_cases hb : b = a
    · obtain ⟨⟨o', q1, _⟩, _, q4⟩ := s.cel n a e h1 h2
      rw [hb, ← q4 hf] at k
      exact absurd (strip_noFrz s.nf k) id
    · rw [upd_ne hb]; exact k
/-- what is read of a cell -/
theorem Ste.at_ (s : Ste Γ Z ad μ H) {n : Nat} {e : En} (h1 : ad[n]? = some a) (h2 : μ[n]? = some e) (hl : e.lk = false) (hf : e.fz = false) : ∃ o, H a = some o ∧ COb Γ Z (strip H) e.c o := by
  obtain ⟨⟨o, q1, q2⟩, _, q4⟩ := s.cel n a e h1 h2
  exact ⟨o, by rw [← q4 hf]; exact q1, q2⟩
theorem Ste.get (s : Ste Γ Z ad μ H) {n : Nat} {e : En} (h2 : μ[n]? = some e) : ∃ a, ad[n]? = some a := by
  have hl := (List.getElem?_eq_some_iff.mp h2).1
  rw [← s.len] at hl
  exact ⟨ad[n], List.getElem?_eq_getElem hl⟩
/-- toT -/
theorem toT_ok (s : Ste Γ Z ad μ H) {w : W} {v : V} {t : T} {μ' : Sto} (h : RepW Γ Z ad (strip H) w v) (e : toT w μ = .ok t μ') : ∃ Z', Ste Γ Z' ad μ' H ∧ Ext Z ad H Z' ad H ∧ Rep Γ Z' (strip H) t v := by
  cases w with
  | t u =>
    have e' : R.ok u μ = R.ok t μ' := e
    cases e'
    exact ⟨Z, s, Ext.refl s, h⟩
  | loc n =>
    obtain ⟨a, h1, rfl⟩ := h
    have e : (match μ[n]? with | some e => R.ok e.c.tree (μ.set n ⟨e.c, e.lk, true⟩) | none => R.bad) = R.ok t μ' := e
    cases q : μ[n]? with
    | none => rw [q] at e; cases e
    | some en =>
      rw [q] at e
      cases e
      obtain ⟨s1, x1⟩ := s.freeze h1 q
      obtain ⟨⟨o, q1, q2⟩, _⟩ := s.cel n a en h1 q
      exact ⟨Zp Z a, s1, x1, (q2.mono (fun _ z => .inl z) fun _ _ => rfl).rep q1 (.inr rfl)⟩
def RepWs (Γ : Tx) (Z : Addr → Prop) (ad : List Addr) (S : Hp) : List W → List V → Prop
  | [], vs => vs = []
  | w :: ws, vs => ∃ v r, vs = v :: r ∧ RepW Γ Z ad S w v ∧ RepWs Γ Z ad S ws r
theorem Ext.repWs {Z' : Addr → Prop} {ad' : List Addr} {H' : Hp} (x : Ext Z ad H Z' ad' H') : ∀ {ws : List W} {vs : List V}, RepWs Γ Z ad (strip H) ws vs → RepWs Γ Z' ad' (strip H') ws vs
  | [], _, h => h
  | _ :: _, _, ⟨v, r, e, h1, h2⟩ => ⟨v, r, e, x.repW h1, x.repWs h2⟩
theorem RepWs.length {S : Hp} : ∀ {ws : List W} {vs : List V}, RepWs Γ Z ad S ws vs → ws.length = vs.length
  | [], _, h => by rw [show _ = [] from h]; rfl
  | _ :: _, _, ⟨v, r, e, h1, h2⟩ => by rw [e, List.length_cons, List.length_cons, h2.length]
theorem toTs_ok : ∀ {ws : List W} {vs : List V} {ts : List T} {μ μ' : Sto} {Z : Addr → Prop}, Ste Γ Z ad μ H → RepWs Γ Z ad (strip H) ws vs → toTs ws μ = .ok ts μ' → ∃ Z', Ste Γ Z' ad μ' H ∧ Ext Z ad H Z' ad H ∧ Reps Γ Z' (strip H) ts vs
  | [], _, _, μ, _, Z, s, h, e => by
    have e' : R.ok [] μ = R.ok _ _ := e
    cases e'
    exact ⟨Z, s, Ext.refl s, reps_nil.mpr h⟩
  | w :: ws, _, ts, μ, μ', Z, s, ⟨v, r, ev, h1, h2⟩, e => by
    subst ev
    unfold toTs at e
    cases q : toT w μ with
    | exc _ _ => rw [q] at e; cases e
    | bad => rw [q] at e; cases e
    | ok t μ1 =>
      rw [q] at e
      have e1 : (toTs ws μ1).bind (fun vs μ => R.ok (t :: vs) μ) = .ok ts μ' := e
      cases q2 : toTs ws μ1 with
      | exc _ _ => rw [q2] at e1; cases e1
      | bad => rw [q2] at e1; cases e1
      | ok us μ2 =>
        rw [q2] at e1
        cases e1
        obtain ⟨Z1, s1, x1, r1⟩ := toT_ok s h1 q
        obtain ⟨Z2, s2, x2, r2⟩ := toTs_ok s1 (x1.repWs h2) q2
        exact ⟨Z2, s2, x1.trans x2, .cons (x2.rep r1) r2⟩
theorem views_ok (s : Ste Γ Z ad μ H) : ∀ {ws : List W} {vs : List V} {ts : List T}, RepWs Γ Z ad (strip H) ws vs → views ws μ = some ts → Paired (fun v t => Vu Γ Z (strip H) t v) vs ts
  | [], _, _, h, e => by
    rw [show _ = [] from h]
    cases (Option.some.inj e : [] = _)
    exact .nil
  | w :: ws, _, ts, ⟨v, r, ev, h1, h2⟩, e => by
    subst ev
    unfold views at e
    cases q : view w μ with
    | none => rw [q] at e; cases e
    | some t =>
      cases q2 : views ws μ with
      | none => rw [q, q2] at e; cases e
      | some us =>
        rw [q, q2] at e
        cases e
        exact .cons (view_vu s h1 q) (views_ok s h2 q2)
/-- a new value: what a rule must be shown (t: it is there; a tuple: newly made; a cell: newly made) -/
theorem fin_t {k : Bool} {t : T} {v : V} {Q : VK} (s : Ste Γ Z ad μ H) (h : Rep Γ Z (strip H) t v)
    (q : ∀ w μ', fin k (.t t) μ = .ok w μ' → ∀ v H' Z' ad', Ste Γ Z' ad' μ' H' → Ext Z ad H Z' ad' H' → RepW Γ Z' ad' (strip H') w v → Q v H') : Q v H :=
  q (.t t) μ rfl v H Z ad s (Ext.refl s) h
theorem fin_tup {k : Bool} {ts : List T} {vs : List V} {Q : VK} (s : Ste Γ Z ad μ H) (h : Reps Γ Z (strip H) ts vs)
    (q : ∀ w μ', fin k (.t (.tup ts)) μ = .ok w μ' → ∀ v H' Z' ad', Ste Γ Z' ad' μ' H' → Ext Z ad H Z' ad' H' → RepW Γ Z' ad' (strip H') w v → Q v H') : ∀ p, H p = none → Q (.ref p) (upd H p (.tup vs)) := fun p hp => by
  obtain ⟨s1, x1⟩ := s.tree (o := .tup vs) hp trivial
  refine q (.t (.tup ts)) μ rfl _ _ _ _ s1 x1 ?_
  show Rep Γ (Zp Z p) (strip (upd H p (.tup vs))) (.tup ts) (.ref p)
  simp only [Rep]
  exact ⟨p, vs, rfl, .inl ⟨.inr rfl, strip_at trivial⟩, x1.reps h⟩
theorem fin_c {k : Bool} {c : Cell} {Q : VK} (s : Ste Γ Z ad μ H) (h : COb Γ Z (strip H) c o)
    (q : ∀ w μ', fin k (.c c) μ = .ok w μ' → ∀ v H' Z' ad', Ste Γ Z' ad' μ' H' → Ext Z ad H Z' ad' H' → RepW Γ Z' ad' (strip H') w v → Q v H') : ∀ p, H p = none → Q (.ref p) (upd H p o) := fun p hp => by
  cases k with
  | true =>
    obtain ⟨s1, x1⟩ := s.cell hp h
    refine q (.loc μ.length) _ rfl _ _ _ _ s1 x1 ⟨p, ?_, rfl⟩
    rw [← s.len]
    simp
  | false =>
    obtain ⟨s1, x1⟩ := s.tree (o := o) hp h.noFrz
    exact q (.t c.tree) μ rfl _ _ _ _ s1 x1 ((x1.cob h).rep (strip_at h.noFrz) (.inr rfl))
end
end Sy
end

section
set_option Elab.async false
set_option linter.all false
set_option maxRecDepth 100000
/-! SyD: operators by values. -/
namespace Sy
open PySem L2 PyProof.Rows
section
variable {Γ : Tx} {X : Cx}
/-- what a rule must hand on: the new value of the evaluator -/
def Giv (Γ : Tx) (Z : Addr → Prop) (ad : List Addr) (H : Hp) (Q : VK) (r : R W) : Prop :=
  ∀ w μ', r = .ok w μ' → ∀ v H' Z' ad', Ste Γ Z' ad' μ' H' → Ext Z ad H Z' ad' H' → RepW Γ Z' ad' (strip H') w v → Q v H'
variable {Z : Addr → Prop} {ad : List Addr} {μ : Sto} {H : Hp} {Q : VK} {k : Bool}
theorem giv_t {t : T} {v : V} (s : Ste Γ Z ad μ H) (h : Rep Γ Z (strip H) t v) (q : Giv Γ Z ad H Q (fin k (.t t) μ)) : Q v H := fin_t (k := k) s h q
theorem giv_int {i : Int} (s : Ste Γ Z ad μ H) (q : Giv Γ Z ad H Q (fin k (.t (.int i)) μ)) : Q (.int i) H := giv_t s (by simp [Rep]) q
theorem giv_str {i : Str} (s : Ste Γ Z ad μ H) (q : Giv Γ Z ad H Q (fin k (.t (.str i)) μ)) : Q (.str i) H := giv_t s (by simp [Rep]) q
theorem giv_bl {i : Bool} (s : Ste Γ Z ad μ H) (q : Giv Γ Z ad H Q (fin k (.t (.bl i)) μ)) : Q (.bl i) H := giv_t s (by simp [Rep]) q
theorem giv_lst {ts : List T} {vs : List V} (s : Ste Γ Z ad μ H) (r : Reps Γ Z (strip H) ts vs) (q : Giv Γ Z ad H Q (fin k (.c (.lst ts)) μ)) : ∀ p, H p = none → Q (.ref p) (upd H p (.lst vs)) := fin_c (c := .lst ts) s ⟨_, rfl, r⟩ q
theorem giv_tup {ts : List T} {vs : List V} (s : Ste Γ Z ad μ H) (r : Reps Γ Z (strip H) ts vs) (q : Giv Γ Z ad H Q (fin k (.t (.tup ts)) μ)) : ∀ p, H p = none → Q (.ref p) (upd H p (.tup vs)) := fin_tup s r q
theorem vu_tup {S : Hp} {ts : List T} {v : V} (h : Vu Γ Z S (.tup ts) v) : ∃ a vs, v = .ref a ∧ ((Z a ∧ S a = some (.tup vs)) ∨ KTup Γ.K a vs) ∧ Reps Γ Z S ts vs := by simpa [Vu, Rep] using h
theorem vu_int {S : Hp} {i : Int} {v : V} (h : Vu Γ Z S (.int i) v) : v = .int i := by simpa [Vu, Rep] using h
theorem vu_str {S : Hp} {i : Str} {v : V} (h : Vu Γ Z S (.str i) v) : v = .str i := by simpa [Vu, Rep] using h
theorem vu_bl {S : Hp} {i : Bool} {v : V} (h : Vu Γ Z S (.bl i) v) : v = .bl i := by simpa [Vu, Rep] using h
theorem vu_non {S : Hp} {v : V} (h : Vu Γ Z S .non v) : v = .non := by simpa [Vu, Rep] using h
theorem vu_atom {S : Hp} {t : T} {v x : V} (h : Vu Γ Z S t v) (e : atom t = some x) : v = x := by
  cases t <;> simp only [atom, Option.some.injEq] at e <;> first | (subst e; first | exact vu_non h | exact vu_bl h | exact vu_int h | exact vu_str h) | cases e
theorem sqT_of {a : Addr} {vs : List V} (h : (Z a ∧ strip H a = some (.tup vs)) ∨ KTup Γ.K a vs) : SqT Γ.K H a vs := h.imp (fun z => rd_of z.2) id
theorem sqL_of {K : PySem.W.Frag} {a : Addr} {vs : List V} (h : strip H a = some (.lst vs)) : SqL K H a vs := .inl (rd_of h)
theorem Inv_lstS {pins : List (Addr × Obj)} {σ : L2.St} {s : Shared} {l : Addr} {xs : List V} (I : Inv X pins σ H s) (h : strip H l = some (.lst xs)) :
    xs.length ≤ sizeLine ∧ ∃ (its : List Value) (n : Nat), Vals xs its ∧ xs.length = its.length ∧ s.heap.get? l = some { cls := .type "list", data := .seq its.toArray n } := by
  obtain ⟨z, its, n, r, e⟩ := (rd_of h).ok I.hok
  exact ⟨z, its, n, r, r.length, e⟩
/-- list + list, whatever walks them -/
theorem op_catS : OpR X (binaryOp .Add) (fun x y H Q => ∃ l b xs zs, x = .ref l ∧ y = .ref b ∧ strip H l = some (.lst xs) ∧ strip H b = some (.lst zs) ∧ xs.length + zs.length ≤ sizeLine ∧ ∀ p, H p = none → Q (.ref p) (upd H p (.lst (xs ++ zs)))) := by
  intro pins s σ H x y v u Q I rx ry h
  obtain ⟨l, b, xs, zs, rfl, rfl, hH, hB, hz, q⟩ := h
  cases rx
  cases ry
  obtain ⟨z, its, n, r, hl, e⟩ := Inv_lstS I hH
  obtain ⟨z2, its2, n2, r2, hl2, e2⟩ := Inv_lstS I hB
  refine PySem.P.add_list e e2 ?_ (by rw [List.size_toArray, List.size_toArray]; omega)
  have ea : its.toArray ++ its2.toArray = (its ++ its2).toArray := by simp
  rw [ea]
  exact ⟨.ref _, _, I.lnew (t' := s.toks) (r.append r2) (by rw [List.length_append]; omega), rfl, q _ I.fresh⟩
theorem op_repS : OpR X (binaryOp .Mult) (fun x y H Q => ∃ l k xs, x = .ref l ∧ y = .int k ∧ strip H l = some (.lst xs) ∧ -(2 ^ 63) ≤ k ∧ k < 2 ^ 63 ∧ xs.length * k.toNat ≤ sizeLine ∧
    ∀ p, H p = none → Q (.ref p) (upd H p (.lst (List.replicate k.toNat xs).flatten))) := by
  intro pins s σ H x y v u Q I rx ry h
  obtain ⟨l, k, xs, rfl, rfl, hH, h1, h2, hz, q⟩ := h
  cases rx
  obtain ⟨t, rfl⟩ := ry
  obtain ⟨z, its, n, r, hl, e⟩ := Inv_lstS I hH
  have hlen : its.toArray.size * k.toNat ≤ sizeLine := by rw [List.size_toArray, ← hl]; exact hz
  have hcap : ¬ its.toArray.size * k.toNat > (2 ^ 63 - 1) / 8 := by
    have : (sizeLine : Nat) ≤ (2 ^ 63 - 1) / 8 := by decide
    omega
  have hfit : ¬ (!Builtin.List.listFitsIndex k) = true := by
    rw [fitsIndex_both h1 h2]
    exact Bool.false_ne_true
  have hlong : ¬ Builtin.List.listTooLong (its.toArray.size * k.toNat) = true := by
    rw [notLongL hlen]
    exact Bool.false_ne_true
  have hnew : List.foldl (fun x1 x2 => x1 ++ x2) #[] (List.replicate (if its.toArray.isEmpty = true then 0 else k.toNat) its.toArray) = (List.replicate k.toNat its).flatten.toArray := by
    have f0 : ∀ m : Nat, List.foldl (fun x1 x2 => x1 ++ x2) #[] (List.replicate m its.toArray) = (List.replicate m its).flatten.toArray := fun m => by
      have := foldl_rep its m []
      rw [List.nil_append] at this
      exact this
    rw [f0]
    cases its with
    | nil => simp
    | cons a r' => rw [if_neg (by simp)]
  refine wpAny_binaryOp_repeat_ref (T := "list") (U := "int") (by decide) ⟨_, e, rfl⟩ (fun s' => typeIs_int s' k t) noFill_list_mul F.fills_int_mul F.slot_int_rmul repeat_list F.slot_int_index.lookup
    (call_meets F.slot_int_rmul (typeIs_int s k t) F.entry_int_rmul (F.args_int_rmul_2 _ _) (int___rmul___int_list k t l its.toArray n)
      ⟨e, rfl, ⟨_, e, rfl⟩, call_meets F.slot_list_mul ⟨_, e, rfl⟩ F.entry_list_mul (F.args_list_mul_2 _ _) (AutoListH.list___mul___list_int_3 l its.toArray n k t hfit hcap hlong) ⟨e, ?_⟩⟩)
  rw [hnew]
  exact ⟨.ref _, _, I.lnew (t' := s.toks) (r.rep k.toNat) (by rw [PyProof.Rows.lm_len_rep_flat, Nat.mul_comm]; exact hz), rfl, q _ I.fresh⟩
theorem mulOk_of {x : Str} {n : Int} (h : RepOk x.length n) : PySem.MulOk x n := by
  obtain ⟨h1, h2, h3⟩ := h
  have hs : sizeLine = 16777216 := sizeLine_eq
  refine ⟨?_, fun hn _ => ?_, fun hn _ => ?_⟩
  · simp only [Bool.or_eq_false_iff, decide_eq_false_iff_not]
    omega
  · have hn' : 0 < n := by omega
    have e : ((n.toNat : Nat) : Int) = n := Int.toNat_of_nonneg (by omega)
    have h4 : (x.length : Int) * n ≤ 16777216 := by
      rw [← e]
      have : ((x.length * n.toNat : Nat) : Int) ≤ ((16777216 : Nat) : Int) := by omega
      simpa using this
    have h5 : (x.length : Int) ≤ (2 ^ 63 - 1) / n := (Int.le_ediv_iff_mul_le hn').mpr (by omega)
    omega
  · unfold Builtin.Str.tooLong
    simp only [decide_eq_false_iff_not]
    rw [hs] at h3
    omega
theorem op_mulStr : OpR X (binaryOp .Mult) (fun x y H Q => ∃ z k, x = .str z ∧ y = .int k ∧ RepOk z.length k ∧ Q (.str (Txt.mul z k)) H) := by
  intro pins s σ H x y v u Q I rx ry h
  obtain ⟨z, k, rfl, rfl, hz, q⟩ := h
  obtain ⟨t, rfl⟩ := rx
  obtain ⟨t', rfl⟩ := ry
  exact SB.mul (mulOk_of hz) fun t' k' => ⟨.str _, H, I.tok _, ⟨_, rfl⟩, q⟩
theorem op_fdivO : OpR X (binaryOp .FloorDiv) (rI DivOk fun i j => .int (i.fdiv j)) := opI fun _ _ _ _ _ _ _ hc q => floordiv_int hc.1 q (.inl (PyProof.noPylong_of_log2 hc.2))
def bop : Bop → Operator
  | .add => .Add
  | .sub => .Sub
  | .mul => .Mult
  | .fdiv => .FloorDiv
  | .mod => .Mod
  | .pow => .Pow
def rB (Γ : Tx) (o : Bop) (k : Bool) : R2 := fun x y H Q => ∃ Z ad μ s t nw, Ste Γ Z ad μ H ∧ Vu Γ Z (strip H) s x ∧ Vu Γ Z (strip H) t y ∧ op2 o s t = some nw ∧ Giv Γ Z ad H Q (fin k nw μ)
theorem Reps.append {S : Hp} : ∀ {xs ys : List T} {us vs : List V}, Reps Γ Z S xs us → Reps Γ Z S ys vs → Reps Γ Z S (xs ++ ys) (us ++ vs)
  | [], _, _, _, h, h' => by rw [reps_nil.mp h]; exact h'
  | x :: xs, _, _, _, h, h' => by
    obtain ⟨v, r, e, h1, h2⟩ := reps_cons.mp h
    subst e
    exact .cons h1 (Reps.append h2 h')
theorem Reps.flat {S : Hp} {xs : List T} {us : List V} (h : Reps Γ Z S xs us) : ∀ n : Nat, Reps Γ Z S (List.replicate n xs).flatten (List.replicate n us).flatten
  | 0 => reps_nil.mpr rfl
  | n + 1 => by
    rw [List.replicate_succ, List.replicate_succ, List.flatten_cons, List.flatten_cons]
    exact h.append (h.flat n)
theorem op2_ok (hK : X.K = Γ.K) (o : Bop) (k : Bool) : OpR X (binaryOp (bop o)) (rB Γ o k) := by
  intro pins s σ H x y v u Q I rx ry h
  obtain ⟨Z, ad, μ, a, b, nw, st, ha, hb, e, g⟩ := h
  unfold op2 at e
  split at e
  · cases e
    rw [vu_int ha] at rx
    rw [vu_int hb] at ry
    exact op_add pins s σ H _ _ v u Q I rx ry ⟨_, _, rfl, rfl, giv_int st g⟩
  · split at e
    · rename_i hl
      cases e
      rw [vu_str ha] at rx
      rw [vu_str hb] at ry
      exact op_add_str pins s σ H _ _ v u Q I rx ry ⟨_, _, rfl, rfl, hl, giv_str st g⟩
    · cases e
  · split at e
    · rename_i hl
      cases e
      obtain ⟨l, vs, rfl, h1, r1⟩ := ha
      obtain ⟨m, us, rfl, h2, r2⟩ := hb
      exact op_catS pins s σ H _ _ v u Q I rx ry ⟨l, m, vs, us, rfl, rfl, h1, h2, by rw [← r1.length, ← r2.length]; exact hl, giv_lst st (r1.append r2) g⟩
    · cases e
  · split at e
    · rename_i hl
      cases e
      obtain ⟨l, vs, rfl, h1, r1⟩ := vu_tup ha
      obtain ⟨m, us, rfl, h2, r2⟩ := vu_tup hb
      refine op_catT pins s σ H _ _ v u Q I rx ry ⟨l, m, vs, us, rfl, rfl, hK ▸ sqT_of h1, hK ▸ sqT_of h2, fun z => ?_, by rw [← r1.length, ← r2.length]; exact hl.1, fun z => ?_, fun _ => giv_tup st (r1.append r2) g⟩
      · subst z
        exact hl.2 (List.eq_nil_of_length_eq_zero r1.length)
      · subst z
        refine giv_t st ?_ g
        rw [List.eq_nil_of_length_eq_zero r2.length, List.append_nil]
        exact ha
    · cases e
  · cases e
    rw [vu_int ha] at rx
    rw [vu_int hb] at ry
    exact op_sub pins s σ H _ _ v u Q I rx ry ⟨_, _, rfl, rfl, giv_int st g⟩
  · split at e
    · rename_i hl
      cases e
      rw [vu_int ha] at rx
      rw [vu_int hb] at ry
      rcases hl with hl | hl
      · exact op_mul pins s σ H _ _ v u Q I rx ry ⟨_, _, rfl, rfl, hl, giv_int st g⟩
      · exact op_mulW pins s σ H _ _ v u Q I rx ry ⟨_, _, rfl, rfl, hl, giv_int st g⟩
    · cases e
  · split at e
    · rename_i hl
      cases e
      obtain ⟨l, vs, rfl, h1, r1⟩ := ha
      rw [vu_int hb] at ry
      exact op_repS pins s σ H _ _ v u Q I rx ry ⟨l, _, vs, rfl, rfl, h1, hl.1, hl.2.1, by rw [← r1.length]; exact hl.2.2, giv_lst st (r1.flat _) g⟩
    · cases e
  · split at e
    · rename_i hl
      cases e
      rw [vu_str ha] at rx
      rw [vu_int hb] at ry
      exact op_mulStr pins s σ H _ _ v u Q I rx ry ⟨_, _, rfl, rfl, hl, giv_str st g⟩
    · cases e
  · split at e
    · rename_i hl
      cases e
      rw [vu_int ha] at rx
      rw [vu_int hb] at ry
      exact op_fdivO pins s σ H _ _ v u Q I rx ry ⟨_, _, rfl, rfl, hl, giv_int st g⟩
    · cases e
  · split at e
    · rename_i hl
      cases e
      rw [vu_int ha] at rx
      rw [vu_int hb] at ry
      exact op_modN pins s σ H _ _ v u Q I rx ry ⟨_, _, rfl, rfl, hl, giv_int st g⟩
    · cases e
  · split at e
    · rename_i hl
      cases e
      rw [vu_int ha] at rx
      rw [vu_int hb] at ry
      exact op_pow pins s σ H _ _ v u Q I rx ry ⟨_, _, rfl, rfl, hl, giv_int st g⟩
    · cases e
  · cases e
end
end Sy
end

section
set_option Elab.async false
set_option linter.all false
set_option maxRecDepth 100000
/-! SyE: comparisons, truth, places, slices by values. -/
namespace Sy
open PySem L2 PyProof.Rows
section
variable {Γ : Tx} {X : Cx} {Z : Addr → Prop} {ad : List Addr} {μ : Sto} {H : Hp} {Q : VK} {k : Bool}
/-! ### deep data -/
mutual
theorem dp_of {S : Hp} (hS : S = strip H) : ∀ (t : T) (v : V), Rep Γ Z S t v → PyData.canLay0 (pd t) = true → Dp Γ.K H v (pd t)
  | .non, v, h, _ => by rw [show v = _ from by simpa [Rep] using h]; exact .non
  | .bl b, v, h, _ => by rw [show v = _ from by simpa [Rep] using h]; exact .bl b
  | .int i, v, h, _ => by rw [show v = _ from by simpa [Rep] using h]; exact .int i
  | .str x, v, h, _ => by rw [show v = _ from by simpa [Rep] using h]; exact .str x
  | .tup ts, v, h, c => by
    simp only [Rep] at h
    obtain ⟨a, vs, rfl, h1, h2⟩ := h
    subst hS
    simp only [pd, PyData.canLay0] at c
    exact .tup (sqT_of h1) (dps_of rfl ts vs h2 c)
  | .lst ts, v, h, c => by
    simp only [Rep] at h
    obtain ⟨a, vs, rfl, _, h1, h2⟩ := h
    subst hS
    simp only [pd, PyData.canLay0] at c
    exact .lst (sqL_of h1) (dps_of rfl ts vs h2 c)
  | .dct _ _, _, _, c => by simp [pd, PyData.canLay0] at c
  | .obj _ _, _, _, c => by simp [pd, PyData.canLay0] at c
  | .fn _, _, _, c => by simp [pd, PyData.canLay0] at c
theorem dps_of {S : Hp} (hS : S = strip H) : ∀ (ts : List T) (vs : List V), Reps Γ Z S ts vs → PyData.canLayAll0 (pds ts) = true → DpAll Γ.K H vs (pds ts)
  | [], vs, h, _ => by rw [reps_nil.mp h]; exact .nil
  | t :: ts, vs, h, c => by
    obtain ⟨v, r, rfl, h1, h2⟩ := reps_cons.mp h
    simp only [pds, PyData.canLayAll0, Bool.and_eq_true] at c
    exact .cons (dp_of hS t v h1 c.1) (dps_of hS ts r h2 c.2)
end
theorem dpv_of : ∀ (t : T) (v : V), Vu Γ Z (strip H) t v → PyData.canLay0 (pd t) = true → Dp Γ.K H v (pd t)
  | .non, v, h, c => dp_of (Z := Z) rfl _ _ h c
  | .bl b, v, h, c => dp_of (Z := Z) rfl _ _ h c
  | .int i, v, h, c => dp_of (Z := Z) rfl _ _ h c
  | .str x, v, h, c => dp_of (Z := Z) rfl _ _ h c
  | .tup ts, v, h, c => dp_of (Z := Z) rfl _ _ h c
  | .lst ts, v, h, c => by
    obtain ⟨a, vs, rfl, h1, h2⟩ := h
    simp only [pd, PyData.canLay0] at c
    exact .lst (sqL_of h1) (dps_of rfl ts vs h2 c)
  | .dct _ _, _, _, c => by simp [pd, PyData.canLay0] at c
  | .obj _ _, _, _, c => by simp [pd, PyData.canLay0] at c
  | .fn _, _, _, c => by simp [pd, PyData.canLay0] at c
/-! ### dicts -/
theorem dct_get {ks : List DK} {ts : List T} {v y : V} {kt : T} {k : DK} (h : Vu Γ Z (strip H) (.dct ks ts) v) (hk : keyOf kt = some k) (hy : Vu Γ Z (strip H) kt y) :
    ∃ a r, v = .ref a ∧ DGet H a y r ∧ r.isSome = hasK ks k ∧ ∀ t, dget ks ts k = some t → ∃ w, r = some w ∧ Rep Γ Z (strip H) t w := by
  obtain ⟨a, o, vs, rfl, h1, ⟨kvs, rfl, rfl, rfl⟩, h3⟩ := h
  have ey : y = kV k := by
    cases kt <;> simp only [keyOf, Option.some.injEq] at hk <;> first | cases hk | skip
    · exact vu_int hy
    · exact vu_str hy
  refine ⟨a, valV kvs k, rfl, .inl ⟨kvs, k, rd_of h1, ey, rfl⟩, ?_, ?_⟩
  · clear h1 h3
    unfold valV hasK
    induction kvs with
    | nil => rfl
    | cons p r ih =>
      rw [List.find?_cons, List.map_cons, List.any_cons]
      cases decide (p.1 = k) with
      | true => rfl
      | false => simpa using ih
  · clear h1
    intro t ht
    unfold valV
    induction kvs generalizing ts with
    | nil => simp [dget] at ht
    | cons p r ih =>
      rw [List.map_cons] at h3
      cases ts with
      | nil => simp [dget] at ht
      | cons u us =>
        obtain ⟨w, r', e, q1, q2⟩ := reps_cons.mp h3
        injection e with e1 e2
        subst e1 e2
        simp only [List.map_cons, dget] at ht
        rw [List.find?_cons]
        by_cases hp : p.1 = k
        · rw [if_pos hp] at ht
          cases ht
          rw [decide_eq_true hp]
          exact ⟨_, rfl, q1⟩
        · rw [if_neg hp] at ht
          rw [decide_eq_false hp]
          exact ih q2 ht
/-! ### comparisons -/
def cop : Cop → CmpOp
  | .eq => .Eq
  | .ne => .NotEq
  | .lt => .Lt
  | .le => .LtE
  | .gt => .Gt
  | .ge => .GtE
  | .isIn => .In
  | .notIn => .NotIn
  | .isN => .Is
  | .notN => .IsNot
def rC (Γ : Tx) (o : Cop) : R2 := fun x y H Q => ∃ Z s t b, (∀ a o u, H a = some (.frz o u) → noFrz u ∧ notIns u) ∧ Vu Γ Z (strip H) s x ∧ Vu Γ Z (strip H) t y ∧ cmpT o s t = some b ∧ Q (.bl b) H
theorem vu_atoms {S : Hp} : ∀ {xs : List T} {vs ys : List V}, Reps Γ Z S xs vs → xs.mapM atom = some ys → vs = ys
  | [], vs, ys, h, e => by
    rw [reps_nil.mp h]
    simpa using e
  | x :: xs, vs, ys, h, e => by
    obtain ⟨v, r, rfl, h1, h2⟩ := reps_cons.mp h
    rw [List.mapM_cons] at e
    cases e1 : atom x with
    | none => rw [e1] at e; cases e
    | some a =>
      cases e2 : xs.mapM atom with
      | none => rw [e1, e2] at e; cases e
      | some as =>
        rw [e1, e2] at e
        cases e
        rw [vu_atoms h2 e2, vu_atom h1.vu e1]
theorem atom_flat {t : T} {x : V} (e : atom t = some x) : flatV x = true := by
  cases t <;> simp only [atom, Option.some.injEq] at e <;> first | (subst e; rfl) | cases e
theorem atoms_flat : ∀ {xs : List T} {ys : List V}, xs.mapM atom = some ys → ys.all flatV = true
  | [], ys, e => by
    have : [] = ys := by simpa using e
    subst this; rfl
  | x :: xs, ys, e => by
    rw [List.mapM_cons] at e
    cases e1 : atom x with
    | none => rw [e1] at e; cases e
    | some a =>
      cases e2 : xs.mapM atom with
      | none => rw [e1, e2] at e; cases e
      | some as =>
        rw [e1, e2] at e
        cases e
        rw [List.all_cons, atom_flat e1, atoms_flat e2]
        rfl
theorem eq_rule (hK : X.K = Γ.K) (hu : X.A.units + 64 < cLine) {pins : List (Addr × Obj)} {s : Shared} {σ : L2.St} {x y : V} {v u : Value} {a b : T} {r : Bool} (I : Inv X pins σ H s) (rx : RelV x v) (ry : RelV y u)
    (ha : Vu Γ Z (strip H) a x) (hb : Vu Γ Z (strip H) b y) (e : eqT a b = some r) :
    (∀ Q : VK, Q (.bl r) H → wpAny (model X.prog X.w) X.A (compareOp .Eq v u) (EP X pins σ Q) X.xe s) ∧ (∀ Q : VK, Q (.bl (!r)) H → wpAny (model X.prog X.w) X.A (compareOp .NotEq v u) (EP X pins σ Q) X.xe s) := by
  unfold eqT at e
  split at e
  · rename_i p q e1 e2
    split at e
    · rename_i hs
      cases e
      rw [vu_atom ha e1] at rx
      rw [vu_atom hb e2] at ry
      exact ⟨fun Q q => op_eq pins s σ H _ _ v u Q I rx ry ⟨hs, q⟩, fun Q q => op_ne pins s σ H _ _ v u Q I rx ry ⟨hs, q⟩⟩
    · cases e
  · split at e
    · rename_i hs
      cases e
      have h1 := (Bool.and_eq_true_iff.mp hs).1
      have h2 := (Bool.and_eq_true_iff.mp hs).2
      have d1 := dpv_of a x ha (SeqAt.canLay_of_shaped h1)
      have d2 := dpv_of b y hb (SeqAt.canLay_of_shaped h2)
      rw [← hK] at d1 d2
      exact ⟨fun Q q => op_eqD hu pins s σ H _ _ v u Q I rx ry ⟨_, _, d1, d2, h1, h2, q⟩, fun Q q => op_neD hu pins s σ H _ _ v u Q I rx ry ⟨_, _, d1, d2, h1, h2, q⟩⟩
    · cases e
theorem cmp_ok (hK : X.K = Γ.K) (hu : X.A.units + 64 < cLine) (o : Cop) : OpR X (compareOp (cop o)) (rC Γ o) := by
  intro pins s σ H x y v u Q I rx ry h
  obtain ⟨Z, a, b, r, nf, ha, hb, e, q⟩ := h
  have hu1 : X.A.units + 1 < cLine := by omega
  cases o with
  | eq => exact (eq_rule hK hu I rx ry ha hb e).1 Q q
  | ne =>
    obtain ⟨z, e1, e2⟩ := Option.map_eq_some_iff.mp (show (eqT a b).map not = some r from e)
    subst e2
    exact (eq_rule hK hu I rx ry ha hb e1).2 Q q
  | lt =>
    cases a <;> cases b <;> simp only [cmpT, Option.some.injEq] at e <;> first | cases e | skip
    · rw [vu_int ha] at rx; rw [vu_int hb] at ry
      exact op_lt pins s σ H _ _ v u Q I rx ry ⟨_, _, rfl, rfl, q⟩
    · rw [vu_str ha] at rx; rw [vu_str hb] at ry
      exact op_lt_str pins s σ H _ _ v u Q I rx ry ⟨_, _, rfl, rfl, q⟩
  | le =>
    cases a <;> cases b <;> simp only [cmpT, Option.some.injEq] at e <;> first | cases e | skip
    rw [vu_int ha] at rx; rw [vu_int hb] at ry
    exact op_le pins s σ H _ _ v u Q I rx ry ⟨_, _, rfl, rfl, q⟩
  | gt =>
    cases a <;> cases b <;> simp only [cmpT, Option.some.injEq] at e <;> first | cases e | skip
    rw [vu_int ha] at rx; rw [vu_int hb] at ry
    exact op_gt pins s σ H _ _ v u Q I rx ry ⟨_, _, rfl, rfl, q⟩
  | ge =>
    cases a <;> cases b <;> simp only [cmpT, Option.some.injEq] at e <;> first | cases e | skip
    rw [vu_int ha] at rx; rw [vu_int hb] at ry
    exact op_ge pins s σ H _ _ v u Q I rx ry ⟨_, _, rfl, rfl, q⟩
  | isN =>
    cases b <;> simp only [cmpT] at e <;> first | cases e | skip
    have hy := vu_non hb
    subst hy
    refine op_isN pins s σ H _ _ v u Q I rx ry ⟨rfl, ?_⟩
    have : decide (x = V.non) = r := by
      cases a <;> simp only [Option.some.injEq] at e <;> subst e
      · rw [vu_non ha]; rfl
      · rw [vu_bl ha]; rfl
      · rw [vu_int ha]; rfl
      · rw [vu_str ha]; rfl
      · obtain ⟨a, vs, rfl, _⟩ := vu_tup ha; rfl
      · obtain ⟨a, vs, rfl, _⟩ := ha; rfl
      · obtain ⟨a, o, vs, rfl, _⟩ := ha; rfl
      · obtain ⟨_, a, dx, fs, rfl, _⟩ := ha; rfl
      · simp [Vu, Rep] at ha
    rw [this]
    exact q
  | notN =>
    cases b <;> simp only [cmpT] at e <;> first | cases e | skip
    have hy := vu_non hb
    subst hy
    refine op_notN pins s σ H _ _ v u Q I rx ry ⟨rfl, ?_⟩
    have : (!decide (x = V.non)) = r := by
      cases a <;> simp only [Option.some.injEq] at e <;> subst e
      · rw [vu_non ha]; rfl
      · rw [vu_bl ha]; rfl
      · rw [vu_int ha]; rfl
      · rw [vu_str ha]; rfl
      · obtain ⟨a, vs, rfl, _⟩ := vu_tup ha; rfl
      · obtain ⟨a, vs, rfl, _⟩ := ha; rfl
      · obtain ⟨a, o, vs, rfl, _⟩ := ha; rfl
      · obtain ⟨_, a, dx, fs, rfl, _⟩ := ha; rfl
      · simp [Vu, Rep] at ha
    rw [this]
    exact q
  | isIn =>
    have seq : ∀ (xs : List T) (p : Addr) (vs : List V), inT a xs = some r → y = .ref p → (SqL X.K H p vs ∨ SqT X.K H p vs) → Reps Γ Z (strip H) xs vs →
        wpAny (model X.prog X.w) X.A (compareOp .In v u) (EP X pins σ Q) X.xe s := fun xs p vs e1 ey hq hr => by
      unfold inT at e1
      cases e2 : atom a with
      | none => rw [e2] at e1; cases e1
      | some z =>
        rw [e2] at e1
        obtain ⟨ys, e3, e4⟩ := Option.map_eq_some_iff.mp e1
        subst ey e4
        have hvs := vu_atoms hr e3
        subst hvs
        rw [vu_atom ha e2] at rx
        exact op_in_seq pins s σ H _ _ v u Q I rx ry ⟨p, vs, rfl, hq, atom_flat e2, atoms_flat e3, q⟩
    cases b <;> simp only [cmpT] at e <;> first | cases e | skip
    · cases a <;> simp only [Option.some.injEq] at e <;> first | cases e | skip
      rw [vu_str ha] at rx; rw [vu_str hb] at ry
      exact op_in_str pins s σ H _ _ v u Q I rx ry ⟨_, _, rfl, rfl, q⟩
    · obtain ⟨p, vs, ey, h1, h2⟩ := vu_tup hb
      exact seq _ p vs e ey (.inr (hK ▸ sqT_of h1)) h2
    · obtain ⟨p, vs, ey, h1, h2⟩ := hb
      exact seq _ p vs e ey (.inl (sqL_of h1)) h2
    · obtain ⟨k, e1, e2⟩ := Option.map_eq_some_iff.mp e
      subst e2
      obtain ⟨p, rr, rfl, g, g2, _⟩ := dct_get hb e1 ha
      cases ry
      exact d_in hu1 I g rx fun s' I' => ⟨_, H, I', by rw [g2]; rfl, q⟩
  | notIn =>
    have seq : ∀ (xs : List T) (p : Addr) (vs : List V), (inT a xs).map not = some r → y = .ref p → (SqL X.K H p vs ∨ SqT X.K H p vs) → Reps Γ Z (strip H) xs vs →
        wpAny (model X.prog X.w) X.A (compareOp .NotIn v u) (EP X pins σ Q) X.xe s := fun xs p vs e1 ey hq hr => by
      unfold inT at e1
      cases e2 : atom a with
      | none => rw [e2] at e1; cases e1
      | some z =>
        rw [e2] at e1
        obtain ⟨r', e1', er⟩ := Option.map_eq_some_iff.mp e1
        obtain ⟨ys, e3, e4⟩ := Option.map_eq_some_iff.mp e1'
        subst ey e4 er
        have hvs := vu_atoms hr e3
        subst hvs
        rw [vu_atom ha e2] at rx
        exact op_notIn_seq pins s σ H _ _ v u Q I rx ry ⟨p, vs, rfl, hq, atom_flat e2, atoms_flat e3, q⟩
    cases b <;> simp only [cmpT] at e <;> first | cases e | skip
    · cases a <;> simp only [Option.some.injEq] at e <;> first | cases e | skip
      rw [vu_str ha] at rx; rw [vu_str hb] at ry
      exact op_notIn_str pins s σ H _ _ v u Q I rx ry ⟨_, _, rfl, rfl, q⟩
    · obtain ⟨p, vs, ey, h1, h2⟩ := vu_tup hb
      exact seq _ p vs e ey (.inr (hK ▸ sqT_of h1)) h2
    · obtain ⟨p, vs, ey, h1, h2⟩ := hb
      exact seq _ p vs e ey (.inl (sqL_of h1)) h2
    · obtain ⟨k, e1, e2⟩ := Option.map_eq_some_iff.mp e
      subst e2
      obtain ⟨p, rr, rfl, g, g2, _⟩ := dct_get hb e1 ha
      cases ry
      exact d_notIn hu1 I g rx fun s' I' => ⟨_, H, I', by rw [g2]; rfl, q⟩
end
end Sy
end

section
set_option Elab.async false
set_option linter.all false
set_option maxRecDepth 100000
/-! SyF: truth, places, slices, built-ins, isinstance by values. -/
namespace Sy
open PySem L2 PyProof.Rows
section
variable {Γ : Tx} {X : Cx} {Z : Addr → Prop} {ad : List Addr} {μ : Sto} {H : Hp} {k : Bool}
/-! ### truth -/
theorem str_ne (y : Str) : ((y.length : Int) != 0) = (y.length != 0) := by
  cases h : y.length with
  | zero => rfl
  | succ n => simp [bne]; omega
theorem dct_ok {pins : List (Addr × Obj)} {σ : L2.St} {s : Shared} {p : Addr} {kvs : List (Key × V)} (I : Inv X pins σ H s) (h : strip H p = some (.dK kvs)) :
    kvs.length ≤ sizeLine ∧ (p == sysModules) = false ∧ ∃ vs, KV kvs vs ∧ s.heap.DictOf (mixKind X.prog X.w) p vs := (rd_of h).ok I.hok
def rT (Γ : Tx) : V → Hp → (Bool → Hp → Prop) → Prop := fun x H Q => ∃ Z t b, Vu Γ Z (strip H) t x ∧ truT t = some b ∧ Q b H
theorem truT_ok (hK : X.K = Γ.K) : TruR X (rT Γ) := by
  intro pins s σ H x v Q I rx h
  obtain ⟨Z, t, b, hv, e, q⟩ := h
  have hl := line63
  have go : TruV X.K x H b → wpAny (model X.prog X.w) X.A (truthy v) (TP X pins σ Q) X.xe s := fun z => tru_ok pins s σ H x v Q I rx ⟨b, z, q⟩
  cases t <;> simp only [truT, Option.some.injEq] at e <;> first | cases e | skip
  · rw [vu_non hv] at go; exact go rfl
  · rw [vu_bl hv] at go; exact go rfl
  · rw [vu_int hv] at go; exact go rfl
  · split at e
    · rename_i hs
      cases e
      rw [vu_str hv] at go
      exact go ⟨hs, (str_ne _).symm⟩
    · cases e
  · obtain ⟨a, vs, rfl, h1, h2⟩ := vu_tup hv
    refine go (.inr (.inl ⟨vs, hK ▸ sqT_of h1, ?_⟩))
    have := h2.length
    rename_i xs
    cases xs <;> cases vs <;> simp_all
  · obtain ⟨a, vs, rfl, h1, h2⟩ := hv
    refine go (.inl ⟨vs, sqL_of h1, ?_⟩)
    have := h2.length
    rename_i xs
    cases xs <;> cases vs <;> simp_all
  · obtain ⟨a, o, vs, rfl, h1, ⟨kvs, rfl, rfl, rfl⟩, h3⟩ := hv
    cases rx
    obtain ⟨hz, hS, vs, r, m⟩ := dct_ok I h1
    have hlen : kvs.length = vs.length := Paired.length r
    have hs : sizeLine = 16777216 := sizeLine_eq
    refine wpAny_truthy_dict hS m (by omega) ⟨H, I.tok _, ?_⟩
    rw [isEmpty_kv r]
    have : (!List.isEmpty (kvs.map (·.1))) = !kvs.isEmpty := by cases kvs <;> rfl
    rw [← this]
    exact q
/-! ### places -/
theorem reps_get {S : Hp} : ∀ {ts : List T} {vs : List V} {i : Nat} {t : T}, Reps Γ Z S ts vs → ts[i]? = some t → ∃ v, vs[i]? = some v ∧ Rep Γ Z S t v
  | [], _, _, _, _, e => by simp at e
  | t0 :: _, _, 0, t, h, e => by
    obtain ⟨v, r, rfl, h1, _⟩ := reps_cons.mp h
    have e : t0 = t := by simpa using e
    subst e
    exact ⟨v, rfl, h1⟩
  | _ :: ts, _, i + 1, t, h, e => by
    obtain ⟨v, r, rfl, _, h2⟩ := reps_cons.mp h
    have e : ts[i]? = some t := by simpa using e
    obtain ⟨w, h3, h4⟩ := reps_get h2 e
    exact ⟨w, by simpa using h3, h4⟩
theorem reps_atI {S : Hp} {ts : List T} {vs : List V} {i : Int} {t : T} (h : Reps Γ Z S ts vs) (e : atI ts i = some t) : ∃ v, atI vs i = some v ∧ Rep Γ Z S t v := by
  unfold atI at e ⊢
  rw [← h.length]
  cases q : ixN ts.length i with
  | none => rw [q] at e; cases e
  | some j =>
    rw [q] at e
    exact reps_get h e
def rIxA (Γ : Tx) : R2 := fun x y H Q => ∃ Z s t r, Vu Γ Z (strip H) s x ∧ Vu Γ Z (strip H) t y ∧ idxT s t = some r ∧ ∀ v, Rep Γ Z (strip H) r v → Q v H
theorem ix_dict (hu : X.A.units + 1 < cLine) : IxR X (fun x y H Q => ∃ a v, x = .ref a ∧ DGet H a y (some v) ∧ Q v H) := by
  intro value slice pins s σ H x y v u Q I rx ry h hs
  obtain ⟨a, w, rfl, g, q⟩ := h
  obtain rfl : v = Value.ref a := rx
  have hT := dict_typeIs I g
  unfold subscriptTail
  refine wpAny_bind ?_
  rw [getitemInPython_of_ne hT.not_modules]
  refine wpAny_bind (wpAny_specialOf hT PySem.F.slot_dict_getitem.lookup ?_)
  have fin : wpAny (model X.prog X.w) X.A (subscripted slice false (.ref a) u) (fun r s₃ => wpAny (model X.prog X.w) X.A (letTemporaryGo value (.ref a) r >>= fun _ => pure r) (EP X pins σ Q) X.xe s₃) X.xe s := by
    rw [hs]
    exact wpAny_operating (d_getItem hu I g ry fun w' s3 I3 rw' => wpAny_bind (wpAny_letTemporaryGo (wpAny_pure ⟨w, H, I3, rw', q⟩)))
  first
    | exact wpAny_pure (wpAny_bind fin)
    | exact wpAny_bind (wpAny_pure (wpAny_bind fin))
    | exact wpAny_bind fin
theorem ixA_ok (hK : X.K = Γ.K) (hu : X.A.units + 1 < cLine) : IxR X (rIxA Γ) := by
  intro value slice pins s σ H x y v u Q I rx ry h hs
  obtain ⟨Z, a, b, r, ha, hb, e, q⟩ := h
  cases a <;> simp only [idxT] at e <;> first | cases e | skip
  · cases b <;> simp only at e <;> first | cases e | skip
    split at e
    · rename_i hl
      obtain ⟨c, e1, e2⟩ := Option.map_eq_some_iff.mp e
      subst e2
      rw [vu_str ha] at rx; rw [vu_int hb] at ry
      exact ix_str value slice pins s σ H _ _ v u Q I rx ry ⟨_, _, c, rfl, rfl, hl, e1, q _ (by simp [Rep])⟩ hs
    · cases e
  · cases b <;> simp only at e <;> first | cases e | skip
    obtain ⟨p, vs, rfl, h1, h2⟩ := vu_tup ha
    rw [vu_int hb] at ry
    obtain ⟨w, e1, e2⟩ := reps_atI h2 e
    exact ix_tup value slice pins s σ H _ _ v u Q I rx ry ⟨p, vs, _, w, rfl, rfl, hK ▸ sqT_of h1, e1, q w e2⟩ hs
  · cases b <;> simp only at e <;> first | cases e | skip
    obtain ⟨p, vs, rfl, h1, h2⟩ := ha
    rw [vu_int hb] at ry
    obtain ⟨w, e1, e2⟩ := reps_atI h2 e
    exact ix_list value slice pins s σ H _ _ v u Q I rx ry ⟨p, vs, _, w, rfl, rfl, sqL_of h1, e1, q w e2⟩ hs
  · rename_i ks ts
    have e : (match keyOf b with | some k => dget ks ts k | none => none) = some r := by cases b <;> exact e
    cases e1 : keyOf b with
    | none => rw [e1] at e; cases e
    | some kk =>
      rw [e1] at e
      obtain ⟨p, rr, rfl, g, _, g3⟩ := dct_get ha e1 hb
      obtain ⟨w, rfl, hr⟩ := g3 r e
      exact ix_dict hu value slice pins s σ H _ _ v u Q I rx ry ⟨p, w, rfl, g, q w hr⟩ hs
/-! ### slices -/
theorem reps_drop {S : Hp} : ∀ {ts : List T} {vs : List V} (n : Nat), Reps Γ Z S ts vs → Reps Γ Z S (ts.drop n) (vs.drop n)
  | _, _, 0, h => h
  | [], _, n + 1, h => by rw [reps_nil.mp h]; exact reps_nil.mpr rfl
  | _ :: _, _, n + 1, h => by
    obtain ⟨v, r, rfl, _, h2⟩ := reps_cons.mp h
    exact reps_drop n h2
theorem reps_take {S : Hp} : ∀ {ts : List T} {vs : List V} (n : Nat), Reps Γ Z S ts vs → Reps Γ Z S (ts.take n) (vs.take n)
  | _, _, 0, h => reps_nil.mpr rfl
  | [], _, n + 1, h => by rw [reps_nil.mp h]; exact reps_nil.mpr rfl
  | _ :: _, _, n + 1, h => by
    obtain ⟨v, r, rfl, h1, h2⟩ := reps_cons.mp h
    exact .cons h1 (reps_take n h2)
theorem reps_cut {S : Hp} {ts : List T} {vs : List V} {lo hi : Option Int} (h : Reps Γ Z S ts vs) : Reps Γ Z S (cutL ts lo hi) (cutV vs lo hi) := by
  unfold cutL cutV
  rw [h.length]
  exact reps_take _ (reps_drop _ h)
def rSl (Γ : Tx) (k : Bool) : V → Option Int → Option Int → Hp → VK → Prop := fun x lo hi H Q => ∃ Z ad μ s nw, Ste Γ Z ad μ H ∧ Vu Γ Z (strip H) s x ∧ slcT s lo hi = some nw ∧ Giv Γ Z ad H Q (fin k nw μ)
theorem slA_ok (hK : X.K = Γ.K) (k : Bool) : SlR X (rSl Γ k) := by
  intro pins s σ H x v vl vu lo hi sl Q I rx hs pl pu h
  obtain ⟨Z, ad, μ, a, nw, st, ha, e, g⟩ := h
  cases a <;> simp only [slcT] at e <;> first | cases e | skip
  · split at e
    · rename_i hl
      cases e
      rw [vu_str ha] at rx
      exact sl_str pins s σ H _ v vl vu lo hi sl Q I rx hs pl pu ⟨_, rfl, hl, giv_str st g⟩
    · cases e
  · split at e
    · cases e
    · rename_i hl
      cases e
      obtain ⟨p, vs, rfl, h1, h2⟩ := vu_tup ha
      exact sl_tup pins s σ H _ v vl vu lo hi sl Q I rx hs pl pu ⟨p, vs, rfl, hK ▸ sqT_of h1, by rw [← h2.length]; exact hl, giv_tup st (reps_cut h2) g⟩
  · obtain ⟨p, vs, rfl, h1, h2⟩ := ha
    exact sl_list pins s σ H _ v vl vu lo hi sl Q I rx hs pl pu ⟨p, vs, rfl, sqL_of h1, giv_lst st (reps_cut h2) g⟩
end
end Sy
end

section
set_option Elab.async false
set_option linter.all false
set_option maxRecDepth 100000
/-! SyG: built-ins and isinstance by values. -/
namespace Sy
open PySem L2 PyProof.Rows
section
variable {Γ : Tx} {X : Cx} {Z : Addr → Prop} {ad : List Addr} {μ : Sto} {H : Hp} {k : Bool}
def bfV : Bf → Value
  | .len => .builtin "len"
  | .int_ => .type "int"
  | .abs_ => .builtin "abs"
  | .str_ => .type "str"
  | .list_ => .type "list"
  | .tuple_ => .type "tuple"
  | .sorted_ => .builtin "sorted"
  | .all_ => .builtin "all"
  | .any_ => .builtin "any"
  | .max2 => .builtin "max"
  | .min2 => .builtin "min"
  | .gcd => .builtin "math.gcd"
abbrev Vus (Γ : Tx) (Z : Addr → Prop) (S : Hp) : List V → List T → Prop := Paired fun v t => Vu Γ Z S t v
def rF (Γ : Tx) (f : Bf) (k : Bool) : List V → Hp → VK → Prop := fun vs H Q => ∃ Z ad μ ts nw, Ste Γ Z ad μ H ∧ Vus Γ Z (strip H) vs ts ∧ bltT f ts = some nw ∧ Giv Γ Z ad H Q (fin k nw μ)
theorem vus1 {S : Hp} {vs : List V} {t : T} (h : Vus Γ Z S vs [t]) : ∃ v, vs = [v] ∧ Vu Γ Z S t v := by
  cases h with
  | cons h1 h2 => cases h2; exact ⟨_, rfl, h1⟩
theorem vus2 {S : Hp} {vs : List V} {t u : T} (h : Vus Γ Z S vs [t, u]) : ∃ v w, vs = [v, w] ∧ Vu Γ Z S t v ∧ Vu Γ Z S u w := by
  cases h with
  | cons h1 h2 => cases h2 with
    | cons h2 h3 => cases h3; exact ⟨_, _, rfl, h1, h2⟩
theorem reps_strs {S : Hp} : ∀ {xs : List T} {vs : List V} {ys : List Str}, Reps Γ Z S xs vs → strsOf xs = some ys → vs = ys.map V.str ∧ xs = ys.map T.str
  | [], vs, ys, h, e => by
    have e : [] = ys := Option.some.inj e
    subst e
    exact ⟨reps_nil.mp h, rfl⟩
  | x :: xs, vs, ys, h, e => by
    obtain ⟨v, r, rfl, h1, h2⟩ := reps_cons.mp h
    cases x <;> simp only [strsOf] at e <;> first | cases e | skip
    obtain ⟨zs, e1, e2⟩ := Option.map_eq_some_iff.mp e
    subst e2
    obtain ⟨q1, q2⟩ := reps_strs h2 e1
    rw [q1, vu_str h1.vu, q2]
    exact ⟨rfl, rfl⟩
theorem strs_reps {S : Hp} : ∀ ys : List Str, Reps Γ Z S (ys.map T.str) (ys.map V.str)
  | [] => reps_nil.mpr rfl
  | y :: ys => .cons (by simp [Rep]) (strs_reps ys)
theorem reps_bls {S : Hp} : ∀ {xs : List T} {vs : List V} {ys : List Bool}, Reps Γ Z S xs vs → blsOf xs = some ys → vs = ys.map V.bl
  | [], vs, ys, h, e => by
    have e : [] = ys := Option.some.inj e
    subst e
    exact reps_nil.mp h
  | x :: xs, vs, ys, h, e => by
    obtain ⟨v, r, rfl, h1, h2⟩ := reps_cons.mp h
    cases x <;> simp only [blsOf] at e <;> first | cases e | skip
    obtain ⟨zs, e1, e2⟩ := Option.map_eq_some_iff.mp e
    subst e2
    rw [reps_bls h2 e1, vu_bl h1.vu]
    rfl
theorem keys_reps {S : Hp} : ∀ kvs : List (Key × V), Reps Γ Z S ((kvs.map (·.1)).map keyT) (kvs.map fun kv => kV kv.1)
  | [] => reps_nil.mpr rfl
  | (.inl i, _) :: r => .cons (by simp [Rep, keyT, kV]) (keys_reps r)
  | (.inr i, _) :: r => .cons (by simp [Rep, keyT, kV]) (keys_reps r)
/-! ### sorted texts are one list -/
theorem leS_iff {x y : Str} : leS x y = true ↔ x.cps.toList ≤ y.cps.toList := by
  unfold leS
  rw [Bool.not_eq_true', decide_eq_false_iff_not]
  exact List.not_lt
theorem leS_tot (x y : Str) : leS x y = true ∨ leS y x = true := by
  rw [leS_iff, leS_iff]
  exact List.le_total _ _
theorem leS_trans {x y z : Str} (h1 : leS x y = true) (h2 : leS y z = true) : leS x z = true := by
  rw [leS_iff] at *
  exact List.le_trans h1 h2
theorem leS_anti {x y : Str} (h1 : leS x y = true) (h2 : leS y x = true) : x = y := by
  rw [leS_iff] at *
  have e := List.le_antisymm h1 h2
  cases x; cases y
  simpa using e
theorem insS_perm (x : Str) : ∀ l : List Str, (insS x l).Perm (x :: l)
  | [] => List.Perm.refl _
  | y :: ys => by
    unfold insS
    cases leS x y with
    | true => exact List.Perm.refl _
    | false => exact ((insS_perm x ys).cons y).trans (List.Perm.swap x y ys)
theorem sortS_perm : ∀ l : List Str, (sortS l).Perm l
  | [] => List.Perm.refl _
  | x :: xs => (insS_perm x _).trans ((sortS_perm xs).cons x)
theorem insS_sorted (x : Str) : ∀ {l : List Str}, l.Pairwise (fun a b => leS a b = true) → (insS x l).Pairwise (fun a b => leS a b = true)
  | [], _ => List.pairwise_singleton _ _
  | y :: ys, h => by
    unfold insS
    obtain ⟨h1, h2⟩ := List.pairwise_cons.mp h
    cases e : leS x y with
    | true => exact List.pairwise_cons.mpr ⟨fun z hz => by
        rcases List.mem_cons.mp hz with q | q
        · rw [q]; exact e
        · exact leS_trans e (h1 z q), h⟩
    | false =>
      have e2 : leS y x = true := (leS_tot x y).resolve_left (by rw [e]; exact Bool.false_ne_true)
      refine List.pairwise_cons.mpr ⟨fun z hz => ?_, insS_sorted x h2⟩
      rcases List.mem_cons.mp ((insS_perm x ys).mem_iff.mp hz) with q | q
      · rw [q]; exact e2
      · exact h1 z q
theorem sortS_sorted : ∀ l : List Str, (sortS l).Pairwise (fun a b => leS a b = true)
  | [] => List.Pairwise.nil
  | x :: xs => insS_sorted x (sortS_sorted xs)
theorem rising_pair : ∀ (p : Str) (l : List Str), risingS p l = true → (p :: l).Pairwise (fun a b => leS a b = true)
  | p, [], _ => List.pairwise_singleton _ _
  | p, x :: r, h => by
    unfold risingS at h
    rw [Bool.and_eq_true] at h
    have ih := rising_pair x r h.2
    have e : leS p x = true := by unfold leS; rw [← ltCps_eq]; exact h.1
    refine List.pairwise_cons.mpr ⟨fun z hz => ?_, ih⟩
    rcases List.mem_cons.mp hz with q | q
    · rw [q]; exact e
    · exact leS_trans e ((List.pairwise_cons.mp ih).1 z q)
theorem sorted_eq {xs ys : List Str} (h : ys.Perm xs) (s : sortedS ys = true) : ys = sortS xs := by
  have p : ys.Pairwise (fun a b => leS a b = true) := by
    cases ys with
    | nil => exact List.Pairwise.nil
    | cons x r => exact rising_pair x r s
  exact List.Perm.eq_of_pairwise (fun a b _ _ => leS_anti) p (sortS_sorted xs) (h.trans (sortS_perm xs).symm)
/-- list(d), whatever walks it -/
theorem call_list_dS (hc : X.calm = true) : CallR X (.type "list") (fun xs H Q => ∃ p kvs, xs = [.ref p] ∧ strip H p = some (.dK kvs) ∧ ∀ q, H q = none → Q (.ref q) (upd H q (.lst (kvs.map fun kv => kV kv.1)))) := by
  intro pins s σ H xs us Q I r h
  obtain ⟨p, kvs, e, hk, q⟩ := h
  subst e
  obtain ⟨u, eu, rx⟩ := vals1 r
  subst eu
  obtain rfl : u = Value.ref p := rx
  obtain ⟨z, lo, vs, rk, hd⟩ := dct_ok I hk
  obtain ⟨ep, hat⟩ := hd.dictAt
  have hl : kvs.length = vs.length := Paired.length rk
  refine PySem.W.kdl_call (PySem.W.kdl_dict (knd := mixKind X.prog X.w) (kvs := vs) (ep := ep) lo) (I.ok.hd hc) hat (by rw [← hl]; exact z) fun h' tk acc' c' hkeep hS hacc => ?_
  refine ⟨.ref s.heap.objs.size, upd H s.heap.objs.size (.lst (kvs.map fun kv => kV kv.1)), I.laid hkeep (Nat.le_refl _) (show ObjOk X.prog X.w _ _ _ (.lst (kvs.map fun kv => kV kv.1)) from ⟨?_, acc'.toList, c', ?_, ?_⟩), rfl, q _ (I.hok.fresh (Nat.le_refl _))⟩
  · rw [List.length_map]; exact z
  · have el : acc'.toList.length = acc'.size := by simp
    refine vals_of_at (by rw [List.length_map, el, hacc.1, hl]) fun j x w h1 h2 => ?_
    obtain ⟨k, y, hky, hi⟩ := hacc.2 j w (by rw [← Array.getElem?_toList]; exact h2)
    have e1 : (kvs.map (·.1))[j]? = some k := by
      rw [KV.keys rk, List.getElem?_map, hky] <;> rfl
    have e2 : (kvs.map fun kv => kV kv.1)[j]? = some (kV k) := by
      have e3 : (kvs.map fun kv => kV kv.1) = (kvs.map (·.1)).map kV := by rw [List.map_map] <;> rfl
      rw [e3, List.getElem?_map, e1] <;> rfl
    rw [e2] at h1
    cases h1
    exact keyIs_rel hi
  · rw [Array.toArray_toList]; exact hS
theorem blt_ok (hK : X.K = Γ.K) (hc : X.calm = true) (f : Bf) (k : Bool) : CallR X (bfV f) (rF Γ f k) := by
  intro pins s σ H vs us Q I rs h
  obtain ⟨Z, ad, μ, ts, nw, st, hv, e, g⟩ := h
  unfold bltT at e
  split at e
  · cases e
    obtain ⟨v, rfl, a, xs, rfl, h1, h2⟩ := vus1 hv
    exact call_len_seq pins s σ H _ us Q I rs ⟨a, xs, rfl, .inl (sqL_of h1), by rw [← h2.length]; exact giv_int st g⟩
  · cases e
    obtain ⟨v, rfl, hw⟩ := vus1 hv
    obtain ⟨a, xs, rfl, h1, h2⟩ := vu_tup hw
    exact call_len_seq pins s σ H _ us Q I rs ⟨a, xs, rfl, .inr (hK ▸ sqT_of h1), by rw [← h2.length]; exact giv_int st g⟩
  · cases e
    obtain ⟨v, rfl, a, o, xs, rfl, h1, ⟨kvs, rfl, rfl, rfl⟩, h3⟩ := vus1 hv
    obtain ⟨u, rfl, rx⟩ := vals1 rs
    cases rx
    refine d_len I (rd_of h1) fun t s' I' => ⟨.int (kvs.length : Nat), H, I', ⟨t, rfl⟩, ?_⟩
    rw [List.length_map] at g
    exact giv_int st g
  · split at e
    · rename_i hl
      cases e
      obtain ⟨v, rfl, hw⟩ := vus1 hv
      rw [vu_str hw] at rs
      exact call_len_str pins s σ H _ us Q I rs ⟨_, rfl, hl, giv_int st g⟩
    · cases e
  · cases e
    obtain ⟨v, rfl, hw⟩ := vus1 hv
    rw [vu_int hw] at rs
    exact call_int1 pins s σ H _ us Q I rs (.inl ⟨_, rfl, giv_int st g⟩)
  · cases e
    obtain ⟨v, rfl, hw⟩ := vus1 hv
    rw [vu_bl hw] at rs
    exact call_int1 pins s σ H _ us Q I rs (.inr ⟨_, rfl, giv_int st g⟩)
  · cases e
    obtain ⟨v, rfl, hw⟩ := vus1 hv
    rw [vu_int hw] at rs
    exact call_abs pins s σ H _ us Q I rs ⟨_, rfl, giv_int st g⟩
  · split at e
    · rename_i hl
      cases e
      obtain ⟨v, rfl, hw⟩ := vus1 hv
      rw [vu_int hw] at rs
      exact call_str_int pins s σ H _ us Q I rs ⟨_, rfl, hl, giv_str st g⟩
    · cases e
  · cases e
    obtain ⟨v, rfl, a, xs, rfl, h1, h2⟩ := vus1 hv
    exact call_list_of pins s σ H _ us Q I rs ⟨a, xs, rfl, .inl (sqL_of h1), giv_lst st h2 g⟩
  · cases e
    obtain ⟨v, rfl, hw⟩ := vus1 hv
    obtain ⟨a, xs, rfl, h1, h2⟩ := vu_tup hw
    exact call_list_of pins s σ H _ us Q I rs ⟨a, xs, rfl, .inr (hK ▸ sqT_of h1), giv_lst st h2 g⟩
  · cases e
    obtain ⟨v, rfl, a, o, xs, rfl, h1, ⟨kvs, rfl, rfl, rfl⟩, h3⟩ := vus1 hv
    exact call_list_dS hc pins s σ H _ us Q I rs ⟨a, kvs, rfl, h1, giv_lst st (keys_reps kvs) g⟩
  · cases e
    obtain ⟨v, rfl, a, xs, rfl, h1, h2⟩ := vus1 hv
    exact call_tuple_of pins s σ H _ us Q I rs ⟨a, xs, rfl, .inl ⟨sqL_of h1, giv_tup st h2 g⟩⟩
  · cases e
    obtain ⟨v, rfl, hw⟩ := vus1 hv
    obtain ⟨a, xs, rfl, h1, h2⟩ := vu_tup hw
    exact call_tupleT pins s σ H _ us Q I rs ⟨a, xs, rfl, hK ▸ sqT_of h1, giv_t st hw g⟩
  · split at e
    · rename_i xs ys e1
      split at e
      · rename_i hl
        cases e
        obtain ⟨v, rfl, a, vs, rfl, h1, h2⟩ := vus1 hv
        obtain ⟨q1, q2⟩ := reps_strs h2 e1
        subst q1 q2
        refine cr_sortedS pins s σ H _ us Q I rs ⟨a, ys, rfl, sqL_of h1, by simpa using hl, fun zs p hp hs hn => ?_⟩
        rw [sorted_eq hp hs]
        exact giv_lst st (strs_reps _) g p hn
      · cases e
    · cases e
  · obtain ⟨bs, e1, e2⟩ := Option.map_eq_some_iff.mp e
    subst e2
    obtain ⟨v, rfl, a, vs, rfl, h1, h2⟩ := vus1 hv
    have q1 := reps_bls h2 e1
    subst q1
    exact cr_all hc pins s σ H _ us Q I rs ⟨a, bs, rfl, sqL_of h1, giv_bl st g⟩
  · obtain ⟨bs, e1, e2⟩ := Option.map_eq_some_iff.mp e
    subst e2
    obtain ⟨v, rfl, a, vs, rfl, h1, h2⟩ := vus1 hv
    have q1 := reps_bls h2 e1
    subst q1
    exact cr_any hc pins s σ H _ us Q I rs ⟨a, bs, rfl, sqL_of h1, giv_bl st g⟩
  · cases e
    obtain ⟨v, w, rfl, h1, h2⟩ := vus2 hv
    rw [vu_int h1, vu_int h2] at rs
    exact call_max2 hc pins s σ H _ us Q I rs ⟨_, _, rfl, giv_int st g⟩
  · cases e
    obtain ⟨v, w, rfl, h1, h2⟩ := vus2 hv
    rw [vu_int h1, vu_int h2] at rs
    exact call_min2 hc pins s σ H _ us Q I rs ⟨_, _, rfl, giv_int st g⟩
  · cases e
    obtain ⟨v, w, rfl, h1, h2⟩ := vus2 hv
    rw [vu_int h1, vu_int h2] at rs
    exact cr_gcd pins s σ H _ us Q I rs ⟨_, _, rfl, giv_int st g⟩
  · cases e
/-! ### isinstance -/
def clV (Γ : Tx) : Cl → Value
  | .int => .type "int"
  | .bool => .type "bool"
  | .str => .type "str"
  | .list => .type "list"
  | .tuple => .type "tuple"
  | .dict => .type "dict"
  | .own c => .ref (Γ.C c)
def tyT (Γ : Tx) : T → Value
  | .non => .type "NoneType"
  | .bl _ => .type "bool"
  | .int _ => .type "int"
  | .str _ => .type "str"
  | .tup _ => .type "tuple"
  | .lst _ => .type "list"
  | .dct _ _ => .type "dict"
  | .obj c _ => .ref (Γ.C c)
  | .fn _ => .none
def clOk (Γ : Tx) : Cl → Bool
  | .own c => decide (c < Γ.n)
  | _ => true
/-- what is asked of the own classes -/
structure Fct (Γ : Tx) : Prop where
  cls : ∀ c, c < Γ.n → Cls Γ.K (Γ.C c)
  cl2 : ∀ c, c < Γ.n → PySem.W.findIn Γ.K (.ref (Γ.C c)) "__class__" = some (some (.builtin "object.__class__"))
  mro : ∀ c, c < Γ.n → PySem.W.mroIn Γ.K (Γ.C c) (.type "object") = some true
  gd : PySem.W.specialIn Γ.K (.builtin "object.__class__") "__get__" = some (some (.builtin "getset_descriptor.__get__"))
  tk : PySem.W.takesIn Γ.K (.builtin "object.__class__") = some true
  koo : ∀ c d, c < Γ.n → d < Γ.n → PySem.W.kitOne Γ.K (.ref (Γ.C c)) (.ref (Γ.C d)) = some (decide (c = d))
  kob : ∀ c, c < Γ.n → ∀ n, n ∈ ["int", "bool", "str", "list", "tuple", "dict"] → PySem.W.kitOne Γ.K (.ref (Γ.C c)) (.type n) = some false
  kbo : ∀ d, d < Γ.n → ∀ n, n ∈ ["NoneType", "int", "bool", "str", "list", "tuple", "dict"] → PySem.W.kitOne Γ.K (.type n) (.ref (Γ.C d)) = some false
theorem kit_T (F : Fct Γ) {t : T} {v : V} {c : Cl} {b : Bool} {S : Hp} (h : Vu Γ Z S t v) (hc : clOk Γ c = true) (e : isiT t c = some b) : PySem.W.kitOne Γ.K (tyT Γ t) (clV Γ c) = some b := by
  cases t <;> simp only [isiT, Option.some.injEq] at e <;> first | cases e | skip
  case obj k xs =>
    obtain ⟨hk, _⟩ := h
    cases c <;> first | exact F.kob k hk _ (by simp) | skip
    rename_i d
    have hd : d < Γ.n := of_decide_eq_true hc
    show PySem.W.kitOne Γ.K (.ref (Γ.C k)) (.ref (Γ.C d)) = _
    rw [F.koo k d hk hd]
    simp [eq_comm]
  all_goals
    cases c <;> first | exact F.kbo _ (of_decide_eq_true hc) _ (by simp) | exact kit_ty (by decide +kernel)
theorem kit_any (F : Fct Γ) {t : T} {v : V} {S : Hp} (h : Vu Γ Z S t v) : ∀ {cs : List Cl} {b : Bool}, cs.all (clOk Γ) = true → isiAny t cs = some b → PySem.W.kitAny Γ.K (tyT Γ t) (cs.map (clV Γ)) = some b
  | [], b, _, e => by
    have e : false = b := Option.some.inj e
    subst e
    exact kitAny_nil
  | c :: cs, b, hc, e => by
    rw [List.all_cons, Bool.and_eq_true] at hc
    unfold isiAny at e
    cases e1 : isiT t c with
    | none => rw [e1] at e; cases e
    | some x =>
      cases e2 : isiAny t cs with
      | none => rw [e1, e2] at e; cases e
      | some y =>
        rw [e1, e2] at e
        cases e
        refine kitAny_cons (kit_T F h hc.1 e1) (fun hb => ?_) fun hb => by rw [hb]; rfl
        rw [hb, Bool.false_or]
        exact kit_any F h hc.2 e2
theorem ins_of {a : Addr} {C dx : Addr} {fs : List (Str × V)} (nf : ∀ a o u, H a = some (.frz o u) → noFrz u ∧ notIns u) (h : strip H a = some (.ins C dx fs)) : H a = some (.ins C dx fs) := by
  rcases rd_of h with h | ⟨o, h⟩
  · exact h
  · exact absurd (nf a o _ h).2 id
theorem tyx_of (F : Fct Γ) (nf : ∀ a o u, H a = some (.frz o u) → noFrz u ∧ notIns u) {t : T} {v : V} (h : Vu Γ Z (strip H) t v) (hn : ∀ f, t ≠ .fn f) : TyX Γ.K H v (tyT Γ t) := by
  cases t with
  | non => rw [vu_non h]; exact .base .non
  | bl b => rw [vu_bl h]; exact .base (.bl b)
  | int i => rw [vu_int h]; exact .base (.int i)
  | str x => rw [vu_str h]; exact .base (.str x)
  | tup ts =>
    obtain ⟨a, vs, rfl, h1, _⟩ := vu_tup h
    rcases h1 with ⟨_, h1⟩ | ⟨o, its, n, h1, h2, _⟩
    · rcases rd_of h1 with q | ⟨o, q⟩
      · exact .base (.tup q)
      · exact .fTuple q
    · exact .kTuple h1 h2
  | lst ts =>
    obtain ⟨a, vs, rfl, h1, _⟩ := h
    rcases rd_of h1 with q | ⟨o, q⟩
    · exact .base (.lst q)
    · exact .base (.frz q)
  | dct ks ts =>
    obtain ⟨a, o, vs, rfl, h1, ⟨kvs, rfl, _⟩, _⟩ := h
    rcases rd_of h1 with q | ⟨o, q⟩
    · exact .base (.dK q)
    · exact .fDict q
  | obj c ts =>
    obtain ⟨hc, a, dx, fs, rfl, h1, _⟩ := h
    exact .base (.ins (ins_of nf h1) (F.cls c hc) (F.cl2 c hc) F.gd F.tk (F.mro c hc))
  | fn f => exact absurd rfl (hn f)
end
end Sy
end

section
set_option Elab.async false
set_option linter.all false
set_option maxRecDepth 100000
/-! SyH: what a piece of code does, as a rule of the hand layer; expressions. -/
namespace Sy
open PySem L2 PyProof.Rows
section
variable (Γ : Tx)
abbrev Rp (α β : Type) := (Addr → Prop) → List Addr → Hp → α → β → Prop
/-- what is handed on: the result of the evaluator -/
def Out {α β : Type} (rp : Rp α β) (Z : Addr → Prop) (ad : List Addr) (H : Hp) (r : R α) (Q : β → Hp → Prop) : Prop := match r with
  | .ok a μ' => ∀ b H' Z' ad', Ste Γ Z' ad' μ' H' → Ext Z ad H Z' ad' H' → rp Z' ad' H' a b → Q b H'
  | .exc _ _ => False
  | .bad => False
def rpW : Rp W V := fun Z ad H w v => RepW Γ Z ad (strip H) w v
def rpB : Rp Bool Bool := fun _ _ _ b c => b = c
def rpL : Rp (List W) (List V) := fun Z ad H w v => RepWs Γ Z ad (strip H) w v
def rpU : Rp Unit Unit := fun _ _ _ _ _ => True
def rpG : Rp Env L2.St := fun Z ad H ρ σ => Slo Γ Z ad ρ σ H
def tS {α β : Type} (ρ : Env) (μ : Sto) (rp : Rp α β) (r : R α) : L2.St → Hp → (β → Hp → Prop) → Prop := fun σ H Q => ∃ Z ad, Ste Γ Z ad μ H ∧ Slo Γ Z ad ρ σ H ∧ Out Γ rp Z ad H r Q
end
def R.st {α : Type} (r : R α) (μ : Sto) : Sto := match r with
  | .ok _ μ' => μ'
  | _ => μ
theorem R.st_ok {α : Type} {a : α} {μ μ' : Sto} : (R.ok a μ').st μ = μ' := rfl
section
variable {Γ : Tx} {X : Cx} {α β γ δ : Type} {rp : Rp α β} {rp' : Rp γ δ} {Z Z1 : Addr → Prop} {ad ad1 : List Addr} {H H1 : Hp} {ρ : Env} {μ : Sto} {σ : L2.St}
theorem Out.ext {r : R α} {Q : β → Hp → Prop} (h : Out Γ rp Z ad H r Q) (x : Ext Z ad H Z1 ad1 H1) : Out Γ rp Z1 ad1 H1 r Q := by
  cases r with
  | ok a μ' => exact fun b H' Z' ad' s y r => h b H' Z' ad' s (x.trans y) r
  | exc _ _ => exact h
  | bad => exact h
theorem Out.mono {r : R α} {Q Q' : β → Hp → Prop} (h : Out Γ rp Z ad H r Q) (q : ∀ b H, Q b H → Q' b H) : Out Γ rp Z ad H r Q' := by
  cases r with
  | ok a μ' => exact fun b H' Z' ad' s y r => q _ _ (h b H' Z' ad' s y r)
  | exc _ _ => exact h
  | bad => exact h
theorem Out.now {a : α} {b : β} {Q : β → Hp → Prop} (s : Ste Γ Z ad μ H) (h : Out Γ rp Z ad H (.ok a μ) Q) (r : rp Z ad H a b) : Q b H := h b H Z ad s (Ext.refl s) r
theorem Out.giv {r : R W} {Q : VK} (h : Out Γ (rpW Γ) Z ad H r Q) : Giv Γ Z ad H Q r := fun w μ' e => by
  subst e
  exact h
theorem Out.ofNw {k : Bool} {o : Option Nw} {Q : VK} (h : Out Γ (rpW Γ) Z ad H (ofNw k o μ) Q) : ∃ nw, o = some nw ∧ Giv Γ Z ad H Q (fin k nw μ) := by
  cases o with
  | none => exact False.elim h
  | some nw => exact ⟨nw, rfl, Out.giv h⟩
theorem Out.ofO {β : Type} {f : α → Sto → R β} {rp : Rp β δ} {o : Option α} {Q : δ → Hp → Prop} (h : Out Γ rp Z ad H ((ofO o μ).bind f) Q) : ∃ a, o = some a ∧ Out Γ rp Z ad H (f a μ) Q := by
  cases o with
  | none => exact False.elim h
  | some a => exact ⟨a, rfl, h⟩
/-- one step, then the others -/
theorem step {r : R α} {f : α → Sto → R γ} {Q : δ → Hp → Prop} {K : β → Hp → Prop} (s : Ste Γ Z ad μ H) (l : Slo Γ Z ad ρ σ H) (h : Out Γ rp' Z ad H (r.bind f) Q)
    (k : ∀ a μ1 b H1 Z1 ad1, r = .ok a μ1 → Ste Γ Z1 ad1 μ1 H1 → Slo Γ Z1 ad1 ρ σ H1 → Ext Z ad H Z1 ad1 H1 → rp Z1 ad1 H1 a b → Out Γ rp' Z1 ad1 H1 (f a μ1) Q → K b H1) : tS Γ ρ μ rp r σ H K := by
  refine ⟨Z, ad, s, l, ?_⟩
  cases r with
  | ok a μ' => exact fun b H' Z' ad' s' x r => k a μ' b H' Z' ad' rfl s' (l.ext x) x r (Out.ext (Γ := Γ) (r := f a μ') h x)
  | exc _ _ => exact h
  | bad => exact h
theorem step1 {r : R α} {Q : β → Hp → Prop} (s : Ste Γ Z ad μ H) (l : Slo Γ Z ad ρ σ H) (h : Out Γ rp Z ad H r Q) : tS Γ ρ μ rp r σ H Q := ⟨Z, ad, s, l, h⟩

/-- an expression, a test, arguments, a target do as the function says -/
def SE (Γ : Tx) (X : Cx) (ρ : Env) (e : Expr) (F : Sto → R W) : Prop := ∀ μ, PE X e (tS Γ ρ μ (rpW Γ) (F μ))
def ST (Γ : Tx) (X : Cx) (ρ : Env) (e : Expr) (F : Sto → R Bool) : Prop := ∀ μ, PT X e (tS Γ ρ μ rpB (F μ))
def SW (Γ : Tx) (X : Cx) (ρ : Env) (e : Expr) (F : Sto → R Bool) : Prop := ∀ μ, PW X e (tS Γ ρ μ rpB (F μ))
def SA (Γ : Tx) (X : Cx) (ρ : Env) (es : List Expr) (F : Sto → R (List W)) : Prop := ∀ μ, PA X es (tS Γ ρ μ (rpL Γ) (F μ))
def SG (Γ : Tx) (X : Cx) (e : Expr) (F : W → Env → Sto → R Env) : Prop := ∀ w ρ μ, PG X e fun v σ H Q => ∃ Z ad, Ste Γ Z ad μ H ∧ Slo Γ Z ad ρ σ H ∧ RepW Γ Z ad (strip H) w v ∧ Out Γ (rpG Γ) Z ad H (F w ρ μ) Q
def SGs (Γ : Tx) (X : Cx) (es : List Expr) (F : List W → Env → Sto → R Env) : Prop := ∀ w ρ μ, PGs X es fun v σ H Q => ∃ Z ad, Ste Γ Z ad μ H ∧ Slo Γ Z ad ρ σ H ∧ RepWs Γ Z ad (strip H) w v ∧ Out Γ (rpG Γ) Z ad H (F w ρ μ) Q
variable {e a b c : Expr} {es : List Expr} {F G K : Sto → R W} {pos : Pos}
theorem PE.imp {t t' : TE} (h : PE X e t) (q : ∀ σ H Q, t' σ H Q → t σ H Q) : PE X e t' := ⟨fun pins s σ H Q I w => h.run pins s σ H Q I (q σ H Q w)⟩
theorem PT.imp {t t' : TT} (h : PT X e t) (q : ∀ σ H Q, t' σ H Q → t σ H Q) : PT X e t' := ⟨fun pins s σ H Q I w => h.run pins s σ H Q I (q σ H Q w)⟩
theorem PW.imp {t t' : TT} (h : PW X e t) (q : ∀ σ H Q, t' σ H Q → t σ H Q) : PW X e t' := ⟨fun x pins s σ H Q I w => h.run x pins s σ H Q I (q σ H Q w)⟩
theorem PA.imp {t t' : TA} (h : PA X es t) (q : ∀ σ H Q, t' σ H Q → t σ H Q) : PA X es t' := ⟨fun p pins s σ H Q I w => h.run p pins s σ H Q I (q σ H Q w)⟩
theorem PE.bad (h : ∀ σ H Q, ¬ tt σ H Q) : PE X e tt := ⟨fun _ _ σ H Q _ w => absurd w (h σ H Q)⟩
theorem se_bad : SE Γ X ρ e fun _ => .bad := fun μ => ⟨fun _ _ σ H Q _ ⟨_, _, _, _, w⟩ => False.elim w⟩
/-! ### names, constants -/
theorem se_var {i : Nat} {x : Str} (hN : X.N[i]? = some x) (hv : Vis X.env.scope x) (hd : (x == ("__debug__" : Str)) = false) (hcd : (x == ("__classdict__" : Str)) = false) :
    SE Γ X ρ (.Name x pos) fun μ => match ρ[i]? with | some (some w) => .ok w μ | _ => .bad := fun μ => by
  refine PE.imp (pe_var hN hv hd hcd) fun σ H Q ⟨Z, ad, s, l, h⟩ => ?_
  cases e : ρ[i]? with
  | none => rw [e] at h; exact False.elim h
  | some o =>
    cases o with
    | none => rw [e] at h; exact False.elim h
    | some w =>
      rw [e] at h
      obtain ⟨v, h1, h2⟩ := l.sl i w e
      exact ⟨v, h1, h.now s h2⟩
/-- a constant of the text -/
def cstV : T → Option Const
  | .non => some .none
  | .bl b => some (.bool b)
  | .int i => some (.int i)
  | .str x => some (.str x)
  | _ => none
theorem se_cst {t : T} {k : Const} {j : Nat} (h : cstV t = some k) : SE Γ X ρ (.Constant k j pos) fun μ => .ok (.t t) μ := fun μ => by
  cases t <;> cases h
  · exact PE.imp pe_non fun σ H Q ⟨Z, ad, s, l, h⟩ => h.now s (by simp [rpW, RepW, Rep])
  · exact PE.imp pe_bl fun σ H Q ⟨Z, ad, s, l, h⟩ => h.now s (by simp [rpW, RepW, Rep])
  · exact PE.imp pe_int fun σ H Q ⟨Z, ad, s, l, h⟩ => h.now s (by simp [rpW, RepW, Rep])
  · exact PE.imp pe_str fun σ H Q ⟨Z, ad, s, l, h⟩ => h.now s (by simp [rpW, RepW, Rep])
/-! ### operators -/
theorem se_op2 (hK : X.K = Γ.K) {o : Bop} {k : Bool} (ha : SE Γ X ρ a F) (hb : SE Γ X ρ b G) : SE Γ X ρ (.BinOp a (bop o) b pos) fun μ => (F μ).bind fun x μ => (G μ).bind fun y μ => match view x μ, view y μ with
    | some s, some t => ofNw k (op2 o s t) μ
    | _, _ => .bad := fun μ => by
  refine PE.imp (pe_op (op2_ok hK o k) (ha μ) (hb ((F μ).st μ))) fun σ H Q ⟨Z, ad, s, l, h⟩ => step s l h fun x μ1 v H1 Z1 ad1 e s1 l1 x1 r1 h1 => ?_
  rw [e, R.st_ok]
  refine step s1 l1 h1 fun y μ2 u H2 Z2 ad2 e2 s2 l2 x2 r2 h2 => ?_
  have r1' := x2.repW r1
  split at h2
  · rename_i p q e3 e4
    obtain ⟨nw, e5, g⟩ := Out.ofNw h2
    exact ⟨Z2, ad2, μ2, p, q, nw, s2, view_vu s2 r1' e3, view_vu s2 r2 e4, e5, g⟩
  · exact False.elim h2
theorem se_neg (ha : SE Γ X ρ a F) : SE Γ X ρ (.UnaryOp .USub a pos) fun μ => (F μ).bind fun x μ => match x with
    | .t (.int i) => .ok (.t (.int (-i))) μ
    | _ => .bad := fun μ => by
  refine PE.imp (pe_un un_neg (ha μ)) fun σ H Q ⟨Z, ad, s, l, h⟩ => step s l h fun x μ1 v H1 Z1 ad1 e s1 l1 x1 r1 h1 => ?_
  split at h1
  · rename_i i
    exact ⟨i, by simpa [rpW, RepW, Rep] using r1, h1.now s1 (by simp [rpW, RepW, Rep])⟩
  · exact False.elim h1
theorem se_nt (ha : SE Γ X ρ a F) : SE Γ X ρ (.UnaryOp .Not a pos) fun μ => (F μ).bind fun x μ => match x with
    | .t (.bl b) => .ok (.t (.bl (!b))) μ
    | _ => .bad := fun μ => by
  refine PE.imp (pe_not (ha μ)) fun σ H Q ⟨Z, ad, s, l, h⟩ => step s l h fun x μ1 v H1 Z1 ad1 e s1 l1 x1 r1 h1 => ?_
  split at h1
  · rename_i i
    exact ⟨i, by simpa [rpW, RepW, Rep] using r1, h1.now s1 (by simp [rpW, RepW, Rep])⟩
  · exact False.elim h1
theorem se_cmp (hK : X.K = Γ.K) (hu : X.A.units + 64 < cLine) {o : Cop} (ha : SE Γ X ρ a F) (hb : SE Γ X ρ b G) (hm : behindInMarks (cop o) b = false) : SE Γ X ρ (.Compare a [cop o] [b] pos) fun μ => (F μ).bind fun x μ => (G μ).bind fun y μ => match view x μ, view y μ with
    | some s, some t => (ofO (cmpT o s t) μ).bind fun z μ => .ok (.t (.bl z)) μ
    | _, _ => .bad := fun μ => by
  refine PE.imp (pe_cmpR (cmp_ok (Γ := Γ) hK hu o) (ha μ) (hb ((F μ).st μ)) hm) fun σ H Q ⟨Z, ad, s, l, h⟩ => step s l h fun x μ1 v H1 Z1 ad1 e s1 l1 x1 r1 h1 => ?_
  rw [e, R.st_ok]
  refine step s1 l1 h1 fun y μ2 u H2 Z2 ad2 e2 s2 l2 x2 r2 h2 => ?_
  have r1' := x2.repW r1
  split at h2
  · rename_i p q e3 e4
    obtain ⟨z, e5, g⟩ := Out.ofO h2
    exact ⟨Z2, p, q, z, s2.nf, view_vu s2 r1' e3, view_vu s2 r2 e4, e5, g.now s2 (by simp [rpW, RepW, Rep])⟩
  · exact False.elim h2
theorem st_cmp (hK : X.K = Γ.K) (hu : X.A.units + 64 < cLine) {o : Cop} (ha : SE Γ X ρ a F) (hb : SE Γ X ρ b G) (hm : behindInMarks (cop o) b = false) : ST Γ X ρ (.Compare a [cop o] [b] pos) fun μ => (F μ).bind fun x μ => (G μ).bind fun y μ => match view x μ, view y μ with
    | some s, some t => ofO (cmpT o s t) μ
    | _, _ => .bad := fun μ => by
  refine PT.imp (pt_cmpR (cmp_ok (Γ := Γ) hK hu o) (ha μ) (hb ((F μ).st μ)) hm) fun σ H Q ⟨Z, ad, s, l, h⟩ => step s l h fun x μ1 v H1 Z1 ad1 e s1 l1 x1 r1 h1 => ?_
  rw [e, R.st_ok]
  refine step s1 l1 h1 fun y μ2 u H2 Z2 ad2 e2 s2 l2 x2 r2 h2 => ?_
  have r1' := x2.repW r1
  split at h2
  · rename_i p q e3 e4
    cases e5 : cmpT o p q with
    | none => rw [e5] at h2; exact False.elim h2
    | some z =>
      rw [e5] at h2
      exact ⟨Z2, p, q, z, s2.nf, view_vu s2 r1' e3, view_vu s2 r2 e4, e5, z, rfl, h2.now s2 rfl⟩
  · exact False.elim h2
theorem se_chn (hK : X.K = Γ.K) (hu : X.A.units + 64 < cLine) {o p : Cop} (ha : SE Γ X ρ a F) (hb : SE Γ X ρ b G) (hc : SE Γ X ρ c K) (hm : lastMarks [cop o, cop p] [b, c] = false) :
    SE Γ X ρ (.Compare a [cop o, cop p] [b, c] pos) fun μ => (F μ).bind fun x μ => (G μ).bind fun y μ => match view x μ, view y μ with
    | some s, some t => match cmpT o s t with
      | some true => (K μ).bind fun z μ => match view y μ, view z μ with
        | some t, some u => (ofO (cmpT p t u) μ).bind fun z μ => .ok (.t (.bl z)) μ
        | _, _ => .bad
      | some false => .ok (.t (.bl false)) μ
      | none => .bad
    | _, _ => .bad := fun μ => by
  refine PE.imp (pe_chain (cmp_ok (Γ := Γ) hK hu o) (cmp_ok (Γ := Γ) hK hu p) (ha μ) (hb ((F μ).st μ)) (hc ((G ((F μ).st μ)).st ((F μ).st μ))) hm) fun σ H Q ⟨Z, ad, s, l, h⟩ => step s l h fun x μ1 v H1 Z1 ad1 e s1 l1 x1 r1 h1 => ?_
  rw [e, R.st_ok]
  refine step s1 l1 h1 fun y μ2 u H2 Z2 ad2 e2 s2 l2 x2 r2 h2 => ?_
  have r1' := x2.repW r1
  rw [e2, R.st_ok]
  split at h2
  · rename_i a1 b1 e3 e4
    split at h2
    · rename_i e5
      refine ⟨Z2, a1, b1, true, s2.nf, view_vu s2 r1' e3, view_vu s2 r2 e4, e5, true, rfl, ?_⟩
      rw [if_pos rfl]
      refine step s2 l2 h2 fun z μ3 w H3 Z3 ad3 e6 s3 l3 x3 r3 h3 => ?_
      have r2' := x3.repW r2
      split at h3
      · rename_i b2 c1 e8 e7
        obtain ⟨q, e9, g⟩ := Out.ofO h3
        exact ⟨Z3, b2, c1, q, s3.nf, view_vu s3 r2' e8, view_vu s3 r3 e7, e9, g.now s3 (by simp [rpW, RepW, Rep])⟩
      · exact False.elim h3
    · rename_i e5
      refine ⟨Z2, a1, b1, false, s2.nf, view_vu s2 r1' e3, view_vu s2 r2 e4, e5, false, rfl, ?_⟩
      rw [if_neg (by decide)]
      exact h2.now s2 (by simp [rpW, RepW, Rep])
    · exact False.elim h2
  · exact False.elim h2
end
end Sy
end

section
set_option Elab.async false
set_option linter.all false
set_option maxRecDepth 100000
/-! SyI: shapes; arguments, displays, subscripts, attributes, tests, built-ins. -/
namespace Sy
open PySem L2 PyProof.Rows
/-! ### shapes -/
def plainX : Expr → Bool
  | .Starred _ _ => false
  | .Set _ _ _ => false
  | .Slice _ _ _ _ => false
  | _ => true
def compX : Expr → Bool
  | .ListComp _ _ _ _ => true
  | .SetComp _ _ _ _ => true
  | .DictComp _ _ _ _ _ => true
  | _ => false
def baseX : Expr → Bool
  | .Call _ [] [] _ => false
  | _ => true
def testX : Expr → Bool
  | .UnaryOp .Not _ _ => false
  | .BoolOp _ _ _ => false
  | .IfExp _ _ _ _ => false
  | .Compare _ _ _ _ => false
  | _ => true
section
variable {Γ : Tx} {X : Cx} {e : Expr} {es : List Expr} {pos : Pos} {env : PySem.Env}
theorem star_of (h : plainX e = true) : starEach (e :: es) env = (false, eval e env) :: starEach es env := by
  cases e <;> first | rfl | cases h
theorem plainIx_of (h : plainX e = true) : PlainIx e := by
  cases e <;> first | (intro o i; rfl) | cases h
theorem behind_of {op : CmpOp} (h : plainX e = true) : behindInMarks op e = false := by
  cases e <;> first | rfl | cases h
theorem last_of {a : Expr} {o p : CmpOp} (h : plainX e = true) : lastMarks [o, p] [a, e] = false := behind_of h
theorem folded_of (h : plainX e = true) : ∀ x, foldedSetIterable e env x = pure x := by
  cases e <;> first | (intro x; rfl) | cases h
theorem swaps_of {t : Option Expr} {n : Nat} (h : compX e = false) : swapsWith e t n env = pure false := by
  cases e <;> first | rfl | cases h
theorem base_of {n : Str} {w : Sem Value} (h : baseX e = true) : attributeBase e n env w = w := by
  cases e <;> first | rfl | skip
  rename_i f as ks p
  cases as with
  | nil =>
    cases ks with
    | nil => cases h
    | cons _ _ => cases f <;> rfl
  | cons _ _ => cases f <;> rfl
theorem test_of (h : testX e = true) : ∀ whole, isTrue e env whole = (do let v ← whole; standAt e.pos; holding [v] (truthy v)) := by
  intro w
  cases e <;> first | rfl | cases h | skip
  rename_i o a p
  cases o <;> first | rfl | cases h
def plainsX (es : List Expr) : Bool := es.all plainX
theorem plain_any : ∀ {es : List Expr}, plainsX es = true → (backTo pos (starEach es env)).any (·.1) = false
  | [], _ => rfl
  | e :: es, h => by
    have h : plainX e = true ∧ plainsX es = true := by simpa [plainsX] using h
    rw [star_of h.1]
    show (false || (backTo pos (starEach es env)).any (·.1)) = false
    rw [plain_any h.2]
    rfl
theorem plain_all : ∀ {es : List Expr}, plainsX es = true → (backTo pos (starEach es env)).all (fun x => !x.1) = true
  | [], _ => rfl
  | e :: es, h => by
    have h : plainX e = true ∧ plainsX es = true := by simpa [plainsX] using h
    rw [star_of h.1]
    show (true && (backTo pos (starEach es env)).all (fun x => !x.1)) = true
    rw [plain_all h.2]
    rfl
end
section
variable {Γ : Tx} {X : Cx} {α β γ δ : Type} {rp : Rp α β} {rp' : Rp γ δ} {Z Z1 : Addr → Prop} {ad ad1 : List Addr} {H H1 : Hp} {ρ : Env} {μ : Sto} {σ : L2.St}
variable {e a b c : Expr} {es : List Expr} {F G K : Sto → R W} {FL : Sto → R (List W)} {FB GB : Sto → R Bool} {pos : Pos}
theorem SE.of (h : SE Γ X ρ e F) (q : ∀ μ, F μ = G μ) : SE Γ X ρ e G := fun μ => q μ ▸ h μ
/-! ### arguments -/
theorem sa_nil : SA Γ X ρ [] fun μ => .ok [] μ := fun μ => PA.imp pa_nil fun σ H Q ⟨Z, ad, s, l, h⟩ => h.now s rfl
theorem sa_cons (ha : SE Γ X ρ e F) (hr : SA Γ X ρ es FL) (hs : plainX e = true) : SA Γ X ρ (e :: es) fun μ => (F μ).bind fun w μ => (FL μ).bind fun ws μ => .ok (w :: ws) μ := fun μ => by
  refine PA.imp (pa_cons (ha μ) (hr ((F μ).st μ)) (star_of hs)) fun σ H Q ⟨Z, ad, s, l, h⟩ => step s l h fun x μ1 v H1 Z1 ad1 e s1 l1 x1 r1 h1 => ?_
  rw [e, R.st_ok]
  exact step s1 l1 h1 fun ws μ2 u H2 Z2 ad2 e2 s2 l2 x2 r2 h2 => h2.now s2 ⟨_, _, rfl, x2.repW r1, r2⟩
theorem RepWs.nilv {S : Hp} {vs : List V} (h : RepWs Γ Z ad S [] vs) : vs = [] := h
theorem out_toTs {ws : List W} {vs : List V} {f : List T → Sto → R γ} {Q : δ → Hp → Prop} (s : Ste Γ Z ad μ H) (r : RepWs Γ Z ad (strip H) ws vs) (h : Out Γ rp' Z ad H ((toTs ws μ).bind f) Q) :
    ∃ ts μ' Z', Ste Γ Z' ad μ' H ∧ Ext Z ad H Z' ad H ∧ Reps Γ Z' (strip H) ts vs ∧ Out Γ rp' Z' ad H (f ts μ') Q := by
  cases e : toTs ws μ with
  | ok ts μ' =>
    rw [e] at h
    obtain ⟨Z', s', x, r'⟩ := toTs_ok s r e
    exact ⟨ts, μ', Z', s', x, r', Out.ext (Γ := Γ) (r := f ts μ') h x⟩
  | exc _ _ => rw [e] at h; exact False.elim h
  | bad => rw [e] at h; exact False.elim h
theorem out_toT {w : W} {v : V} {f : T → Sto → R γ} {Q : δ → Hp → Prop} (s : Ste Γ Z ad μ H) (r : RepW Γ Z ad (strip H) w v) (h : Out Γ rp' Z ad H ((toT w μ).bind f) Q) :
    ∃ t μ' Z', Ste Γ Z' ad μ' H ∧ Ext Z ad H Z' ad H ∧ Rep Γ Z' (strip H) t v ∧ Out Γ rp' Z' ad H (f t μ') Q := by
  cases e : toT w μ with
  | ok ts μ' =>
    rw [e] at h
    obtain ⟨Z', s', x, r'⟩ := toT_ok s r e
    exact ⟨ts, μ', Z', s', x, r', Out.ext (Γ := Γ) (r := f ts μ') h x⟩
  | exc _ _ => rw [e] at h; exact False.elim h
  | bad => rw [e] at h; exact False.elim h
theorem out_if {p : Prop} [Decidable p] {r : R α} {Q : β → Hp → Prop} (h : Out Γ rp Z ad H (if p then r else .bad) Q) : p ∧ Out Γ rp Z ad H r Q := by
  by_cases q : p
  · rw [if_pos q] at h; exact ⟨q, h⟩
  · rw [if_neg q] at h; exact False.elim h
/-! ### displays -/
theorem se_tup {k : Nat} (hl : SA Γ X ρ es FL) : SE Γ X ρ (.Tuple es k pos) fun μ => (FL μ).bind fun ws μ => (toTs ws μ).bind fun vs μ => if vs.length ≤ sizeLine then .ok (.t (.tup vs)) μ else .bad := fun μ => by
  refine PE.imp (pe_tup (hl μ)) fun σ H Q ⟨Z, ad, s, l, h⟩ => step s l h fun ws μ1 vs H1 Z1 ad1 e s1 l1 x1 r1 h1 => ?_
  obtain ⟨ts, μ', Z', s2, x2, r2, h2⟩ := out_toTs s1 r1 h1
  obtain ⟨h3, h4⟩ := out_if h2
  refine ⟨by rw [← r2.length]; exact h3, giv_tup (k := true) s2 r2 ?_⟩
  exact Out.giv h4
theorem se_lst {k : Bool} (hl : SA Γ X ρ es FL) : SE Γ X ρ (.List es pos) fun μ => (FL μ).bind fun ws μ => (toTs ws μ).bind fun vs μ => if vs.length ≤ sizeLine then fin k (.c (.lst vs)) μ else .bad := fun μ => by
  refine PE.imp (pe_lst (hl μ)) fun σ H Q ⟨Z, ad, s, l, h⟩ => step s l h fun ws μ1 vs H1 Z1 ad1 e s1 l1 x1 r1 h1 => ?_
  obtain ⟨ts, μ', Z', s2, x2, r2, h2⟩ := out_toTs s1 r1 h1
  obtain ⟨h3, h4⟩ := out_if h2
  exact ⟨by rw [← r2.length]; exact h3, giv_lst (k := k) s2 r2 (Out.giv h4)⟩
theorem se_dct {k : Bool} : SE Γ X ρ (.Dict [] [] pos) fun μ => fin k (.c (.dct [] [])) μ := fun μ => by
  refine PE.imp pe_dnewK fun σ H Q ⟨Z, ad, s, l, h⟩ => ?_
  exact fin_c (k := k) (c := .dct [] []) s ⟨[], ⟨[], rfl, rfl, rfl⟩, reps_nil.mpr rfl⟩ (Out.giv h)
/-! ### subscripts -/
theorem se_idx (hK : X.K = Γ.K) (hu : X.A.units + 1 < cLine) (ha : SE Γ X ρ a F) (hb : SE Γ X ρ b G) (hp : plainX b = true) : SE Γ X ρ (.Subscript a b pos) fun μ => (F μ).bind fun x μ => (G μ).bind fun y μ => match view x μ, view y μ with
    | some s, some t => (ofO (idxT s t) μ).bind fun v μ => .ok (.t v) μ
    | _, _ => .bad := fun μ => by
  refine PE.imp (pe_ix (ixA_ok (Γ := Γ) hK hu) (ha μ) (hb ((F μ).st μ)) (plainIx_of hp)) fun σ H Q ⟨Z, ad, s, l, h⟩ => step s l h fun x μ1 v H1 Z1 ad1 e s1 l1 x1 r1 h1 => ?_
  rw [e, R.st_ok]
  refine step s1 l1 h1 fun y μ2 u H2 Z2 ad2 e2 s2 l2 x2 r2 h2 => ?_
  have r1' := x2.repW r1
  split at h2
  · rename_i p q e3 e4
    obtain ⟨z, e5, g⟩ := Out.ofO h2
    exact ⟨Z2, p, q, z, view_vu s2 r1' e3, view_vu s2 r2 e4, e5, fun v' r => g.now s2 r⟩
  · exact False.elim h2
def SO (Γ : Tx) (X : Cx) (ρ : Env) (e : Option Expr) (F : Sto → R (Option Int)) : Prop := ∀ μ, PO X e (tS Γ ρ μ (fun _ _ _ a b => a = b) (F μ))
theorem so_none : SO Γ X ρ none fun μ => .ok none μ := fun μ => by
  have h : PO X none tNoPart := po_none
  refine ⟨fun pins s σ H Q I ⟨Z, ad, st, l, h1⟩ => h.run pins s σ H Q I ?_⟩
  exact h1.now st rfl
theorem so_some (he : SE Γ X ρ e F) : SO Γ X ρ (some e) fun μ => (F μ).bind fun w μ => ofO (prt w) μ := fun μ => by
  have h := po_some (he μ)
  refine ⟨fun pins s σ H Q I ⟨Z, ad, st, l, h1⟩ => h.run pins s σ H Q I ?_⟩
  refine step st l h1 fun x μ1 v H1 Z1 ad1 e s1 l1 x1 r1 h2 => ?_
  cases x with
  | loc n => exact False.elim h2
  | t t =>
    cases t <;> first | exact False.elim h2 | skip
    · rename_i i
      exact ⟨i, by simpa [rpW, RepW, Rep] using r1, h2.now s1 rfl⟩
theorem se_slc (hK : X.K = Γ.K) {k : Bool} {lo hi : Option Expr} {p2 : Pos} {FO GO : Sto → R (Option Int)} (ha : SE Γ X ρ a F) (hl : SO Γ X ρ lo FO) (hh : SO Γ X ρ hi GO) : SE Γ X ρ (.Subscript a (.Slice lo hi none p2) pos) fun μ => (F μ).bind fun x μ => (FO μ).bind fun lo μ => (GO μ).bind fun hi μ => match view x μ with
    | some s => ofNw k (slcT s lo hi) μ
    | none => .bad := fun μ => by
  refine PE.imp (pe_slice (slA_ok (Γ := Γ) hK k) (ha μ) (hl ((F μ).st μ)) (hh ((FO ((F μ).st μ)).st ((F μ).st μ)))) fun σ H Q ⟨Z, ad, s, l, h⟩ => step s l h fun x μ1 v H1 Z1 ad1 e s1 l1 x1 r1 h1 => ?_
  rw [e, R.st_ok]
  refine step s1 l1 h1 fun lo' μ2 lo2 H2 Z2 ad2 e2 s2 l2 x2 r2 h2 => ?_
  rw [e2, R.st_ok]
  refine step s2 l2 h2 fun hi' μ3 hi2 H3 Z3 ad3 e3 s3 l3 x3 r3 h3 => ?_
  have r2 : lo' = lo2 := r2
  have r3 : hi' = hi2 := r3
  subst r2 r3
  have r1' := x3.repW (x2.repW r1)
  cases e4 : view x μ3 with
  | none => rw [e4] at h3; exact False.elim h3
  | some p =>
    rw [e4] at h3
    obtain ⟨nw, e5, g⟩ := Out.ofNw h3
    exact ⟨Z3, ad3, μ3, p, nw, s3, view_vu s3 r1' e4, e5, g⟩
/-! ### isinstance -/
end
end Sy
end

section
set_option Elab.async false
set_option linter.all false
set_option maxRecDepth 100000
/-! SyJ: attributes, isinstance, built-ins, tests, boolean operators, f-strings. -/
namespace Sy
open PySem L2 PyProof.Rows
/-- more that is asked of the own classes -/
structure FctA (Γ : Tx) : Prop where
  na : ∀ c, c < Γ.n → ∀ f ∈ Γ.at_ c, NoAttr Γ.K (Γ.C c) f
  nd : ∀ c, c < Γ.n → (Γ.at_ c).Nodup
  few : ∀ c, c < Γ.n → (Γ.at_ c).length < 1000
def alOk (Γ : Tx) (f : Str) (al : List (Nat × Nat)) : Bool := al.all fun p => decide (p.1 < Γ.n) && decide ((Γ.at_ p.1)[p.2]? = some f)
def clVV (Γ : Tx) : Cl → V
  | .int => .ty "int"
  | .bool => .ty "bool"
  | .str => .ty "str"
  | .list => .ty "list"
  | .tuple => .ty "tuple"
  | .dict => .ty "dict"
  | .own c => .ref (Γ.C c)
theorem cls_clVV (Γ : Tx) (c : Cl) : ClsV (clVV Γ c) (clV Γ c) := by cases c <;> first | exact .ty _ | exact .own _
theorem cls_all (Γ : Tx) : ∀ cs : List Cl, Paired ClsV (cs.map (clVV Γ)) (cs.map (clV Γ))
  | [] => .nil
  | c :: cs => .cons (cls_clVV Γ c) (cls_all Γ cs)
theorem rel_clVV (Γ : Tx) (c : Cl) : RelV (clVV Γ c) (clV Γ c) := by cases c <;> rfl
section
variable {Γ : Tx} {X : Cx} {α β γ δ : Type} {rp : Rp α β} {rp' : Rp γ δ} {Z Z1 : Addr → Prop} {ad ad1 : List Addr} {H H1 : Hp} {ρ : Env} {μ : Sto} {σ : L2.St}
variable {e a b c : Expr} {es : List Expr} {F G K : Sto → R W} {FL : Sto → R (List W)} {FB GB : Sto → R Bool} {pos : Pos}
theorem lookup_at : ∀ {fs : List (Str × V)} {p : Nat} {f : Str} {v : V}, (fs.map (·.1)).Nodup → fs[p]? = some (f, v) → fs.lookup f = some v
  | [], _, _, _, _, h => by simp at h
  | (g, x) :: fs, 0, f, v, _, h => by
    have h : (g, x) = (f, v) := by simpa using h
    cases h
    simp [List.lookup]
  | (g, x) :: fs, p + 1, f, v, nd, h => by
    have h : fs[p]? = some (f, v) := by simpa using h
    have nd : g ∉ fs.map (·.1) ∧ (fs.map (·.1)).Nodup := by simpa using nd
    have hf : f ∈ fs.map (·.1) := List.mem_map.mpr ⟨(f, v), List.mem_of_getElem? h, rfl⟩
    have hne : (f == g) = false := by
      rw [beq_eq_false_iff_ne]
      exact fun e => nd.1 (e ▸ hf)
    rw [List.lookup_cons, hne]
    exact lookup_at nd.2 h
theorem al_of {f : Str} {al : List (Nat × Nat)} {c p : Nat} (h : alOk Γ f al = true) (e : al.lookup c = some p) : c < Γ.n ∧ (Γ.at_ c)[p]? = some f := by
  induction al with
  | nil => cases e
  | cons x al ih =>
    have h : (decide (x.1 < Γ.n) && decide ((Γ.at_ x.1)[x.2]? = some f)) = true ∧ alOk Γ f al = true := by simpa [alOk, and_assoc] using h
    obtain ⟨x1, x2⟩ := x
    rw [List.lookup_cons] at e
    by_cases hc : (c == x1) = true
    · rw [hc] at e
      have e : x2 = p := Option.some.inj e
      have hc : c = x1 := by simpa using hc
      subst hc e
      have := h.1
      simp only [Bool.and_eq_true, decide_eq_true_eq] at this
      exact this
    · have hc : (c == x1) = false := by simpa using hc
      rw [hc] at e
      exact ih h.2 e
theorem obj_get {c : Nat} {xs : List T} {v : V} {p : Nat} {f : Str} {t : T} (A : FctA Γ) (s : Ste Γ Z ad μ H) (h : Vu Γ Z (strip H) (.obj c xs) v) (hp : (Γ.at_ c)[p]? = some f) (e : xs[p]? = some t) :
    ∃ a dx fs y, v = .ref a ∧ H a = some (.ins (Γ.C c) dx fs) ∧ c < Γ.n ∧ fs.lookup f = some y ∧ Rep Γ Z (strip H) t y := by
  obtain ⟨hc, a, dx, fs, rfl, h1, h2, h3⟩ := h
  obtain ⟨y, e1, e2⟩ := reps_get h3 e
  have hl : p < xs.length := (List.getElem?_eq_some_iff.mp e).1
  refine ⟨a, dx, fs, y, rfl, ins_of s.nf h1, hc, lookup_at (p := p) ?_ ?_, e2⟩
  · rw [h2]
    exact ((A.nd c hc).sublist (List.take_sublist ..))
  · have e3 : (fs.map (·.1))[p]? = some f := by rw [h2, List.getElem?_take_of_lt hl]; exact hp
    rw [List.getElem?_map] at e1 e3
    cases q : fs[p]? with
    | none => rw [q] at e1; cases e1
    | some z =>
      rw [q] at e1 e3
      obtain ⟨z1, z2⟩ := z
      cases e1
      cases e3
      rfl
theorem se_att (hK : X.K = Γ.K) (B : Fct Γ) (A : FctA Γ) {f : Str} {al : List (Nat × Nat)} (hal : alOk Γ f al = true) (ha : SE Γ X ρ a F) (hb : baseX a = true) : SE Γ X ρ (.Attribute a f pos) fun μ => (F μ).bind fun x μ => match view x μ with
    | some (.obj c xs) => match al.lookup c with
      | some p => match xs[p]? with
        | some v => .ok (.t v) μ
        | none => .bad
      | none => .bad
    | _ => .bad := fun μ => by
  refine PE.imp (pe_fld (ha μ) (base_of hb)) fun σ H Q ⟨Z, ad, s, l, h⟩ => step s l h fun x μ1 v H1 Z1 ad1 e s1 l1 x1 r1 h1 => ?_
  split at h1
  · rename_i c xs e3
    split at h1
    · rename_i p e4
      split at h1
      · rename_i t e5
        obtain ⟨hc, hp⟩ := al_of hal e4
        obtain ⟨ad', dx, fs, y, rfl, q1, _, q2, q3⟩ := obj_get A s1 (view_vu s1 r1 e3) hp e5
        exact ⟨ad', _, dx, fs, y, rfl, q1, hK ▸ B.cls c hc, hK ▸ A.na c hc f (List.mem_of_getElem? hp), q2, h1.now s1 q3⟩
      · exact False.elim h1
    · exact False.elim h1
  · exact False.elim h1
/-! ### isinstance -/
theorem se_isi (hK : X.K = Γ.K) (B : Fct Γ) {c : Cl} {ce : Expr} {p : Pos} (hg : Gl X "isinstance") (hm : X.mg "isinstance" = none) (hc : clOk Γ c = true) (ha : SE Γ X ρ a F) (hce : PE X ce (tC (clVV Γ c))) (p1 : plainX a = true) (p2 : plainX ce = true) :
    SE Γ X ρ (.Call (.Name "isinstance" p) [a, ce] [] pos) fun μ => (F μ).bind fun x μ => match view x μ with
    | some s => (ofO (isiAny s [c]) μ).bind fun z μ => .ok (.t (.bl z)) μ
    | none => .bad := fun μ => by
  have hs : starEach [a, ce] X.env = [(false, eval a X.env), (false, eval ce X.env)] := by rw [star_of p1, star_of p2]; rfl
  have hs2 : starEach [ce] X.env = [(false, eval ce X.env)] := by rw [star_of p2]; rfl
  refine PE.imp (pe_callB call_isi hg hm (by with_unfolding_all rfl) (pa_cons (ha μ) (pa_cons hce pa_nil (star_of p2)) (star_of p1)) (by decide) (by decide) (star_of p1) (by rw [hs2]; rfl)) fun σ H Q ⟨Z, ad, s, l, h⟩ => step s l h fun x μ1 v H1 Z1 ad1 e s1 l1 x1 r1 h1 => ?_
  split at h1
  · rename_i t e3
    obtain ⟨z, e4, g⟩ := Out.ofO h1
    have vw := view_vu s1 r1 e3
    have hn : ∀ f, t ≠ .fn f := fun f q => by subst q; cases e4
    refine ⟨v, clVV Γ c, tyT Γ t, clV Γ c, z, rfl, cls_clVV Γ c, ?_, ?_, g.now s1 (by simp [rpW, RepW, Rep])⟩
    · rw [hK]; exact tyx_of B s1.nf vw hn
    · rw [hK]
      refine kit_T B vw hc ?_
      unfold isiAny isiAny at e4
      cases e5 : isiT t c with
      | none => rw [e5] at e4; cases e4
      | some q =>
        rw [e5] at e4
        have e4 : (q || false) = z := Option.some.inj e4
        rw [← e4, Bool.or_false]
  · exact False.elim h1
def tCs (cs : List V) : TA := fun _ H Q => Q cs H
theorem se_isiT (hK : X.K = Γ.K) (B : Fct Γ) {cs : List Cl} {ces : List Expr} {k : Nat} {p tp : Pos} (hg : Gl X "isinstance") (hm : X.mg "isinstance" = none) (hc : cs.all (clOk Γ) = true) (hne : cs ≠ []) (hl : cs.length ≤ sizeLine) (ha : SE Γ X ρ a F) (hce : PA X ces (tCs (cs.map (clVV Γ)))) (p1 : plainX a = true) :
    SE Γ X ρ (.Call (.Name "isinstance" p) [a, .Tuple ces k tp] [] pos) fun μ => (F μ).bind fun x μ => match view x μ with
    | some s => (ofO (isiAny s cs) μ).bind fun z μ => .ok (.t (.bl z)) μ
    | none => .bad := fun μ => by
  refine PE.imp (pe_callB call_isiT hg hm (by with_unfolding_all rfl) (pa_cons (ha μ) (pa_cons (pe_tup hce) pa_nil rfl) (star_of p1)) (by decide) (by decide) (star_of p1) rfl) fun σ H Q ⟨Z, ad, s, l, h⟩ => step s l h fun x μ1 v H1 Z1 ad1 e s1 l1 x1 r1 h1 => ?_
  refine ⟨by rw [List.length_map]; exact hl, fun q hq => ?_⟩
  split at h1
  · rename_i t e3
    obtain ⟨z, e4, g⟩ := Out.ofO h1
    have vw := view_vu s1 r1 e3
    have hn : ∀ f, t ≠ .fn f := fun f q => by
      subst q
      cases cs with
      | nil => exact hne rfl
      | cons c cs => cases e4
    obtain ⟨s2, x2⟩ := s1.waste (o := .tup (cs.map (clVV Γ))) hq trivial
    have vw2 := view_vu s2 (x2.repW r1) e3
    refine ⟨v, q, cs.map (clVV Γ), tyT Γ t, cs.map (clV Γ), z, rfl, upd_same, ?_, ?_, ?_, ?_⟩
    · exact cls_all Γ cs
    · rw [hK]; exact tyx_of B s2.nf vw2 hn
    · rw [hK]; exact kit_any B vw2 hc e4
    · exact Out.now s2 (Out.ext g x2) (by simp [rpW, RepW, Rep])
  · exact False.elim h1
/-! ### built-ins -/
theorem blt_imp {f : Bf} {k : Bool} {Q : VK} (h : tS Γ ρ μ (rpW Γ) ((FL μ).bind fun ws μ => match views ws μ with
    | some vs => ofNw k (bltT f vs) μ
    | none => .bad) σ H Q) : tCB (rF Γ f k) (tS Γ ρ μ (rpL Γ) (FL μ)) σ H Q := by
  obtain ⟨Z, ad, s, l, h⟩ := h
  refine step s l h fun ws μ1 vs H1 Z1 ad1 e s1 l1 x1 r1 h1 => ?_
  cases e2 : views ws μ1 with
  | none => rw [e2] at h1; exact False.elim h1
  | some ts =>
    rw [e2] at h1
    obtain ⟨nw, e3, g⟩ := Out.ofNw h1
    exact ⟨Z1, ad1, μ1, ts, nw, s1, views_ok s1 r1 e2, e3, g⟩
/-- how a built-in's name is bound -/
inductive BltN (X : Cx) (f : Bf) (x : Str) : Prop where
  | b (id : String) (e : bfV f = .builtin id) (hm : X.mg x = none) (hv : bootBuiltins x = some (.builtin id))
  | t (T : String) (e : bfV f = .type T) (hm : X.mg x = none) (hv : bootBuiltins x = some (.type T))
  | g (id : String) (e : bfV f = .builtin id) (hm : X.mg x = some (.builtin id))
theorem se_blt (hK : X.K = Γ.K) (hc : X.calm = true) {f : Bf} {k : Bool} {x : Str} {p : Pos} (hb : BltN X f x) (hg : Gl X x) (hn : x ≠ "__name__") (hdb : (x == ("__debug__" : Str)) = false) (hl : SA Γ X ρ (e :: es) FL) (hp : plainsX (e :: es) = true) :
    SE Γ X ρ (.Call (.Name x p) (e :: es) [] pos) fun μ => (FL μ).bind fun ws μ => match views ws μ with
    | some vs => ofNw k (bltT f vs) μ
    | none => .bad := fun μ => by
  have hp : plainX e = true ∧ plainsX es = true := by simpa [plainsX] using hp
  have R := blt_ok (Γ := Γ) hK hc f k
  cases hb with
  | b id he hm hv => rw [he] at R; exact PE.imp (pe_callB R hg hm hv (hl μ) hn hdb (star_of hp.1) (plain_any hp.2)) fun σ H Q h => blt_imp h
  | t T he hm hv => rw [he] at R; exact PE.imp (pe_callTy R hg hm hv (hl μ) hn hdb (star_of hp.1) (plain_any hp.2)) fun σ H Q h => blt_imp h
  | g id he hm => rw [he] at R; exact PE.imp (pe_callBfun R hg hm (hl μ) hdb (star_of hp.1) (plain_any hp.2)) fun σ H Q h => blt_imp h
/-- methods of texts -/
def bmS : Bm → Str
  | .join => "join"
  | .stripC => "strip"
def rM (Γ : Tx) (m : Bm) (k : Bool) : V → List V → Hp → VK → Prop := fun x vs H Q => ∃ Z ad μ ts nw, Ste Γ Z ad μ H ∧ Vus Γ Z (strip H) (x :: vs) ts ∧ bmT m ts = some nw ∧ Giv Γ Z ad H Q (fin k nw μ)
theorem vus_cons {S : Hp} {v : V} {vs : List V} {ts : List T} (h : Vus Γ Z S (v :: vs) ts) : ∃ t r, ts = t :: r ∧ Vu Γ Z S t v ∧ Vus Γ Z S vs r := by
  cases h with
  | cons h1 h2 => exact ⟨_, _, rfl, h1, h2⟩
theorem vus_nil {S : Hp} {ts : List T} (h : Vus Γ Z S [] ts) : ts = [] := by cases h; rfl
theorem join_ok (hK : X.K = Γ.K) (k : Bool) : MtR X "str.join" (rM Γ .join k) := by
  intro pins s σ H x xs v us Q I rx rs ⟨Z, ad, μ, ts, nw, st, hv, e, g⟩
  obtain ⟨t, r, rfl, h1, h2⟩ := vus_cons hv
  unfold bmT at e
  split at e
  · rename_i a ys hts
    cases hts
    cases xs with
    | nil => cases vus_nil h2
    | cons y xs =>
      obtain ⟨t2, r2, e2, h3, h4⟩ := vus_cons h2
      cases e2
      cases xs with
      | cons z zs => obtain ⟨_, _, e3, _⟩ := vus_cons h4; cases e3
      | nil =>
        split at e
        · rename_i zs hz
          split at e
          · rename_i hsum
            cases e
            obtain ⟨p, vs, rfl, q1, q2⟩ := h3
            obtain ⟨e5, e6⟩ := reps_strs q2 hz
            rw [vu_str h1] at rx
            refine mt_join pins s σ H _ _ v us Q I rx rs ⟨_, p, zs, rfl, rfl, .inl ?_, hsum, giv_str st g⟩
            rw [← e5]
            exact sqL_of q1
          · cases e
        · cases e
  · contradiction
  · cases e
theorem strip_ok (k : Bool) : MtR X "str.strip" (rM Γ .stripC k) := by
  intro pins s σ H x xs v us Q I rx rs ⟨Z, ad, μ, ts, nw, st, hv, e, g⟩
  obtain ⟨t, r, rfl, h1, h2⟩ := vus_cons hv
  unfold bmT at e
  split at e
  · contradiction
  · rename_i a b hts
    cases hts
    cases xs with
    | nil => cases vus_nil h2
    | cons y xs =>
      obtain ⟨t2, r2, e2, h3, h4⟩ := vus_cons h2
      cases e2
      cases xs with
      | cons z zs => obtain ⟨_, _, e3, _⟩ := vus_cons h4; cases e3
      | nil =>
        split at e
        · rename_i hz
          cases e
          rw [vu_str h1] at rx
          rw [vu_str h3] at rs
          exact mt_stripChars pins s σ H _ _ v us Q I rx rs ⟨_, _, rfl, rfl, hz, giv_str st g⟩
        · cases e
  · cases e
theorem bmT_str {m : Bm} {t : T} {ts : List T} {nw : Nw} (h : bmT m (t :: ts) = some nw) : ∃ a, t = .str a := by
  unfold bmT at h
  split at h <;> first | (rename_i e; cases e; exact ⟨_, rfl⟩) | cases h
theorem view_str {w : W} {a : Str} (h : view w μ = some (.str a)) : w = .t (.str a) := by
  cases w with
  | t t => cases h; rfl
  | loc n =>
    have h : (match μ[n]? with | some e => some e.c.tree | none => none) = some (T.str a) := h
    cases q : μ[n]? with
    | none => rw [q] at h; cases h
    | some en =>
      rw [q] at h
      obtain ⟨c, _, _⟩ := en
      cases c <;> cases h
theorem bmt_imp {m : Bm} {k : Bool} {Q : VK} (h : tS Γ ρ μ (rpW Γ) (((F μ).bind fun w μ => (FL μ).bind fun ws μ => .ok (w :: ws) μ).bind fun ws μ => match views ws μ with
    | some vs => ofNw k (bmT m vs) μ
    | none => .bad) σ H Q) (hK : X.K = Γ.K) : tBM X.K "str" (rM Γ m k) (tS Γ ρ μ (rpW Γ) (F μ)) (tS Γ ρ ((F μ).st μ) (rpL Γ) (FL ((F μ).st μ))) σ H Q := by
  obtain ⟨Z, ad, s, l, h⟩ := h
  have h' : Out Γ (rpW Γ) Z ad H ((F μ).bind fun w μ => (FL μ).bind fun ws μ => match views (w :: ws) μ with
    | some vs => ofNw k (bmT m vs) μ
    | none => .bad) Q := by
    cases q : F μ with
    | exc _ _ => rw [q] at h; exact h
    | bad => rw [q] at h; exact h
    | ok w μ1 =>
      rw [q] at h
      show Out Γ (rpW Γ) Z ad H ((FL μ1).bind _) Q
      cases q2 : FL μ1 with
      | exc _ _ => simp only [R.bind, q2] at h ⊢; exact h
      | bad => simp only [R.bind, q2] at h ⊢; exact h
      | ok ws μ2 => simp only [R.bind, q2] at h ⊢; exact h
  refine step s l h' fun w μ1 v H1 Z1 ad1 e s1 l1 x1 r1 h1 => ?_
  rw [e, R.st_ok]
  refine ⟨?_, step s1 l1 h1 fun ws μ2 vs H2 Z2 ad2 e2 s2 l2 x2 r2 h2 => ?_⟩
  · cases q2 : FL μ1 with
    | exc _ _ => rw [q2] at h1; exact False.elim h1
    | bad => rw [q2] at h1; exact False.elim h1
    | ok ws μ2 =>
      rw [q2] at h1
      have h1 : Out Γ (rpW Γ) Z1 ad1 H1 (match views (w :: ws) μ2 with
        | some vs => ofNw k (bmT m vs) μ2
        | none => .bad) Q := h1
      cases e3 : views (w :: ws) μ2 with
      | none => rw [e3] at h1; exact False.elim h1
      | some ts =>
        rw [e3] at h1
        have h1 : Out Γ (rpW Γ) Z1 ad1 H1 (ofNw k (bmT m ts) μ2) Q := h1
        unfold views at e3
        split at e3
        · rename_i p q e4 e5
          cases e3
          cases e6 : bmT m (p :: q) with
          | none => rw [e6] at h1; exact False.elim h1
          | some nw =>
            obtain ⟨a, rfl⟩ := bmT_str e6
            have := view_str e4
            subst this
            have r1 : v = .str a := by simpa [rpW, RepW, Rep] using r1
            subst r1
            rfl
        · cases e3
  · cases e3 : views (w :: ws) μ2 with
    | none => rw [e3] at h2; exact False.elim h2
    | some ts =>
      rw [e3] at h2
      obtain ⟨nw, e4, g⟩ := Out.ofNw h2
      exact ⟨Z2, ad2, μ2, ts, nw, s2, views_ok s2 (ws := w :: ws) ⟨_, _, rfl, x2.repW r1, r2⟩ e3, e4, g⟩
theorem se_bmt (hK : X.K = Γ.K) {m : Bm} {k : Bool} {o : Expr} {apos cpos : Pos} (ho : SE Γ X ρ o F) (hl : SA Γ X ρ (e :: es) FL) (hb : baseX o = true) (hp : plainsX (e :: es) = true) (hf : es.length < 29) (hline : (apos.endLine == cpos.line) = true) :
    SE Γ X ρ (.Call (.Attribute o (bmS m) apos) (e :: es) [] cpos) fun μ => ((F μ).bind fun w μ => (FL μ).bind fun ws μ => .ok (w :: ws) μ).bind fun ws μ => match views ws μ with
    | some vs => ofNw k (bmT m vs) μ
    | none => .bad := fun μ => by
  have hp' : plainX e = true ∧ plainsX es = true := by simpa [plainsX] using hp
  have few : ((backTo cpos (starEach (e :: es) X.env)).all (fun x => !x.1) && (backToKw cpos (keywordEach [] X.env)).all (fun x => x.1.isSome)
      && decide ((e :: es).length + ([] : List Keyword).length + (if ([] : List Keyword).isEmpty then 0 else 1) < 30)) = true := by
    rw [plain_all hp]
    show (true && true && decide (_ + 0 + 0 < 30)) = true
    simp
    omega
  cases m with
  | join => exact PE.imp (pe_bm PySem.F.plainAttrs_str PySem.F.slot_str_join PySem.F.type_str_join (join_ok (Γ := Γ) hK k) (ho μ) (hl ((F μ).st μ)) (base_of hb) few hline (star_of hp'.1) (plain_any hp'.2)) fun σ H Q h => bmt_imp h hK
  | stripC => exact PE.imp (pe_bm PySem.F.plainAttrs_str PySem.F.slot_str_strip PySem.F.type_str_strip (strip_ok (Γ := Γ) k) (ho μ) (hl ((F μ).st μ)) (base_of hb) few hline (star_of hp'.1) (plain_any hp'.2)) fun σ H Q h => bmt_imp h hK
end
end Sy
end

section
set_option Elab.async false
set_option linter.all false
set_option maxRecDepth 100000
/-! SyK: tests, boolean operators, f-strings. -/
namespace Sy
open PySem L2 PyProof.Rows
section
variable {Γ : Tx} {X : Cx} {α β γ δ : Type} {rp : Rp α β} {rp' : Rp γ δ} {Z Z1 : Addr → Prop} {ad ad1 : List Addr} {H H1 : Hp} {ρ : Env} {μ : Sto} {σ : L2.St}
variable {e a b c : Expr} {es rest : List Expr} {F G K : Sto → R W} {FL : Sto → R (List W)} {FB GB : Sto → R Bool} {pos : Pos}
theorem st_val (hK : X.K = Γ.K) (ha : SE Γ X ρ a F) (ht : testX a = true) : ST Γ X ρ a fun μ => asT (F μ) := fun μ => by
  have h0 : PT X a (fun σ H Q => tS Γ ρ μ (rpW Γ) (F μ) σ H fun x H' => rT Γ x H' Q) :=
    ⟨fun pins s σ H Q I h => isTrue_plain (thn ((ha μ).run pins s σ H _ I h) fun v s1 ⟨x, H1, I1, r1, q1⟩ => truT_ok hK pins s1 σ H1 x v Q I1 r1 q1) (test_of ht _)⟩
  refine PT.imp h0 fun σ H Q ⟨Z, ad, s, l, h⟩ => step s l h fun x μ1 v H1 Z1 ad1 e s1 l1 x1 r1 h1 => ?_
  split at h1
  · rename_i t e3
    cases e4 : truT t with
    | none => rw [e4] at h1; exact False.elim h1
    | some z =>
      rw [e4] at h1
      exact ⟨Z1, t, z, view_vu s1 r1 e3, e4, h1.now s1 rfl⟩
  · exact False.elim h1
def Bl (F : Sto → R W) : Prop := ∀ μ w μ', F μ = .ok w μ' → ∃ z, w = .t (.bl z)
theorem st_of_test (hF : Bl F) (h : ∀ μ, ∃ t, PT X e (tTest t) ∧ ∀ σ H Q, tS Γ ρ μ (rpW Γ) (F μ) σ H Q → t σ H Q) : ST Γ X ρ e fun μ => asT (F μ) := fun μ => by
  obtain ⟨t, h1, h2⟩ := h μ
  refine PT.imp h1 fun σ H Q ⟨Z, ad, s, l, h⟩ => h2 σ H _ (step s l h fun x μ1 v H1 Z1 ad1 e s1 l1 x1 r1 h1 => ?_)
  obtain ⟨z, rfl⟩ := hF _ _ _ e
  exact ⟨z, by simpa [rpW, RepW, Rep] using r1, h1.now s1 rfl⟩
def cmpF (o : Cop) (F G : Sto → R W) (μ : Sto) : R W := (F μ).bind fun x μ => (G μ).bind fun y μ => match view x μ, view y μ with
    | some s, some t => (ofO (cmpT o s t) μ).bind fun z μ => .ok (.t (.bl z)) μ
    | _, _ => .bad
theorem R.bind_ok {r : R α} {f : α → Sto → R β} {b : β} {μ' : Sto} (h : r.bind f = .ok b μ') : ∃ a μ1, r = .ok a μ1 ∧ f a μ1 = .ok b μ' := by
  cases r with
  | ok a μ1 => exact ⟨a, μ1, rfl, h⟩
  | exc _ _ => cases h
  | bad => cases h
theorem cmpF_bl {o : Cop} : Bl (cmpF o F G) := fun μ w μ' h => by
  obtain ⟨x, μ1, _, h⟩ := R.bind_ok h
  obtain ⟨y, μ2, _, h⟩ := R.bind_ok h
  split at h
  · obtain ⟨z, μ3, _, h⟩ := R.bind_ok h
    cases h
    exact ⟨z, rfl⟩
  · cases h
theorem st_cmpT (hK : X.K = Γ.K) (hu : X.A.units + 64 < cLine) {o : Cop} (ha : SE Γ X ρ a F) (hb : SE Γ X ρ b G) (hm : behindInMarks (cop o) b = false) : ST Γ X ρ (.Compare a [cop o] [b] pos) fun μ => asT (cmpF o F G μ) := by
  refine st_of_test cmpF_bl fun μ => ⟨_, pt_cmpR (cmp_ok (Γ := Γ) hK hu o) (ha μ) (hb ((F μ).st μ)) hm, fun σ H Q ⟨Z, ad, s, l, h⟩ => step s l h fun x μ1 v H1 Z1 ad1 e s1 l1 x1 r1 h1 => ?_⟩
  rw [e, R.st_ok]
  refine step s1 l1 h1 fun y μ2 u H2 Z2 ad2 e2 s2 l2 x2 r2 h2 => ?_
  have r1' := x2.repW r1
  split at h2
  · rename_i p q e3 e4
    obtain ⟨z, e5, g⟩ := Out.ofO h2
    exact ⟨Z2, p, q, z, s2.nf, view_vu s2 r1' e3, view_vu s2 r2 e4, e5, g.now s2 (by simp [rpW, RepW, Rep])⟩
  · exact False.elim h2
def chnF (o p : Cop) (F G K : Sto → R W) (μ : Sto) : R W := (F μ).bind fun x μ => (G μ).bind fun y μ => match view x μ, view y μ with
    | some s, some t => match cmpT o s t with
      | some true => (K μ).bind fun z μ => match view y μ, view z μ with
        | some t, some u => (ofO (cmpT p t u) μ).bind fun z μ => .ok (.t (.bl z)) μ
        | _, _ => .bad
      | some false => .ok (.t (.bl false)) μ
      | none => .bad
    | _, _ => .bad
theorem chnF_bl {o p : Cop} : Bl (chnF o p F G K) := fun μ w μ' h => by
  obtain ⟨x, μ1, _, h⟩ := R.bind_ok h
  obtain ⟨y, μ2, _, h⟩ := R.bind_ok h
  split at h
  · split at h
    · obtain ⟨z, μ3, _, h⟩ := R.bind_ok h
      split at h
      · obtain ⟨z, μ3, _, h⟩ := R.bind_ok h
        cases h
        exact ⟨_, rfl⟩
      · cases h
    · cases h; exact ⟨_, rfl⟩
    · cases h
  · cases h
theorem st_chnT (hK : X.K = Γ.K) (hu : X.A.units + 64 < cLine) {o p : Cop} (ha : SE Γ X ρ a F) (hb : SE Γ X ρ b G) (hc : SE Γ X ρ c K) (hm : lastMarks [cop o, cop p] [b, c] = false) :
    ST Γ X ρ (.Compare a [cop o, cop p] [b, c] pos) fun μ => asT (chnF o p F G K μ) := by
  refine st_of_test chnF_bl fun μ => ⟨_, pt_chain (cmp_ok (Γ := Γ) hK hu o) (cmp_ok (Γ := Γ) hK hu p) (ha μ) (hb ((F μ).st μ)) (hc ((G ((F μ).st μ)).st ((F μ).st μ))) hm, fun σ H Q ⟨Z, ad, s, l, h⟩ => step s l h fun x μ1 v H1 Z1 ad1 e s1 l1 x1 r1 h1 => ?_⟩
  rw [e, R.st_ok]
  refine step s1 l1 h1 fun y μ2 u H2 Z2 ad2 e2 s2 l2 x2 r2 h2 => ?_
  have r1' := x2.repW r1
  rw [e2, R.st_ok]
  split at h2
  · rename_i a1 b1 e3 e4
    split at h2
    · rename_i e5
      refine ⟨Z2, a1, b1, true, s2.nf, view_vu s2 r1' e3, view_vu s2 r2 e4, e5, true, rfl, ?_⟩
      rw [if_pos rfl]
      refine step s2 l2 h2 fun z μ3 w H3 Z3 ad3 e6 s3 l3 x3 r3 h3 => ?_
      have r2' := x3.repW r2
      split at h3
      · rename_i b2 c1 e8 e7
        obtain ⟨q, e9, g⟩ := Out.ofO h3
        exact ⟨Z3, b2, c1, q, s3.nf, view_vu s3 r2' e8, view_vu s3 r3 e7, e9, g.now s3 (by simp [rpW, RepW, Rep])⟩
      · exact False.elim h3
    · rename_i e5
      refine ⟨Z2, a1, b1, false, s2.nf, view_vu s2 r1' e3, view_vu s2 r2 e4, e5, false, rfl, ?_⟩
      rw [if_neg (by decide)]
      exact h2.now s2 (by simp [rpW, RepW, Rep])
    · exact False.elim h2
  · exact False.elim h2
/-! ### and, or, not, if -/
theorem st_nt (ha : ST Γ X ρ a FB) : ST Γ X ρ (.UnaryOp .Not a pos) fun μ => (FB μ).bind fun b μ => .ok (!b) μ := fun μ => by
  refine PT.imp (pt_not (ha μ)) fun σ H Q ⟨Z, ad, s, l, h⟩ => step s l h fun x μ1 v H1 Z1 ad1 e s1 l1 x1 r1 h1 => ?_
  have r1 : x = v := r1
  subst r1
  exact h1.now s1 rfl
theorem SW.st (h : SW Γ X ρ a FB) : ST Γ X ρ a FB := fun μ => (h μ).pt
theorem sw_and1 (ha : ST Γ X ρ a FB) : SW Γ X ρ (.BoolOp .And [a] pos) fun μ => (FB μ).bind fun b μ => match b with
    | true => .ok true μ
    | false => .ok false μ := fun μ => by
  refine PW.imp (pw_and1 (ha μ)) fun σ H Q ⟨Z, ad, s, l, h⟩ => step s l h fun x μ1 v H1 Z1 ad1 e s1 l1 x1 r1 h1 => ?_
  have r1 : x = v := r1
  subst r1
  cases x <;> exact h1.now s1 rfl
theorem sw_or1 (ha : ST Γ X ρ a FB) : SW Γ X ρ (.BoolOp .Or [a] pos) fun μ => (FB μ).bind fun b μ => match b with
    | true => .ok true μ
    | false => .ok false μ := fun μ => by
  refine PW.imp (pw_or1 (ha μ)) fun σ H Q ⟨Z, ad, s, l, h⟩ => step s l h fun x μ1 v H1 Z1 ad1 e s1 l1 x1 r1 h1 => ?_
  have r1 : x = v := r1
  subst r1
  cases x <;> exact h1.now s1 rfl
theorem sw_and (ha : ST Γ X ρ a FB) (hb : SW Γ X ρ (.BoolOp .And (b :: rest) pos) GB) : SW Γ X ρ (.BoolOp .And (a :: b :: rest) pos) fun μ => (FB μ).bind fun b μ => match b with
    | true => GB μ
    | false => .ok false μ := fun μ => by
  refine PW.imp (pw_and (ha μ) (hb ((FB μ).st μ))) fun σ H Q ⟨Z, ad, s, l, h⟩ => step s l h fun x μ1 v H1 Z1 ad1 e s1 l1 x1 r1 h1 => ?_
  have r1 : x = v := r1
  subst r1
  rw [e, R.st_ok]
  cases x with
  | true => rw [if_pos rfl]; exact step1 s1 l1 h1
  | false => rw [if_neg (by decide)]; exact h1.now s1 rfl
theorem sw_or (ha : ST Γ X ρ a FB) (hb : SW Γ X ρ (.BoolOp .Or (b :: rest) pos) GB) : SW Γ X ρ (.BoolOp .Or (a :: b :: rest) pos) fun μ => (FB μ).bind fun b μ => match b with
    | true => .ok true μ
    | false => GB μ := fun μ => by
  refine PW.imp (pw_or (ha μ) (hb ((FB μ).st μ))) fun σ H Q ⟨Z, ad, s, l, h⟩ => step s l h fun x μ1 v H1 Z1 ad1 e s1 l1 x1 r1 h1 => ?_
  have r1 : x = v := r1
  subst r1
  rw [e, R.st_ok]
  cases x with
  | true => rw [if_pos rfl]; exact h1.now s1 rfl
  | false => rw [if_neg (by decide)]; exact step1 s1 l1 h1
theorem se_one {op : BoolOp} (ha : SE Γ X ρ a F) : SE Γ X ρ (.BoolOp op [a] pos) F := fun μ => pe_one (ha μ)
theorem se_and (ha : SE Γ X ρ a F) (hb : SE Γ X ρ (.BoolOp .And (b :: rest) pos) G) : SE Γ X ρ (.BoolOp .And (a :: b :: rest) pos) fun μ => (F μ).bind fun x μ => match x with
    | .t (.bl true) => G μ
    | .t (.bl false) => .ok (.t (.bl false)) μ
    | _ => .bad := fun μ => by
  refine PE.imp (pe_and (ha μ) (hb ((F μ).st μ))) fun σ H Q ⟨Z, ad, s, l, h⟩ => step s l h fun x μ1 v H1 Z1 ad1 e s1 l1 x1 r1 h1 => ?_
  rw [e, R.st_ok]
  split at h1
  · exact ⟨true, by simpa [rpW, RepW, Rep] using r1, by rw [if_pos rfl]; exact step1 s1 l1 h1⟩
  · exact ⟨false, by simpa [rpW, RepW, Rep] using r1, by rw [if_neg (by decide)]; exact h1.now s1 (by simp [rpW, RepW, Rep])⟩
  · exact False.elim h1
theorem se_or (ha : SE Γ X ρ a F) (hb : SE Γ X ρ (.BoolOp .Or (b :: rest) pos) G) : SE Γ X ρ (.BoolOp .Or (a :: b :: rest) pos) fun μ => (F μ).bind fun x μ => match x with
    | .t (.bl false) => G μ
    | .t (.bl true) => .ok (.t (.bl true)) μ
    | _ => .bad := fun μ => by
  refine PE.imp (pe_or (ha μ) (hb ((F μ).st μ))) fun σ H Q ⟨Z, ad, s, l, h⟩ => step s l h fun x μ1 v H1 Z1 ad1 e s1 l1 x1 r1 h1 => ?_
  rw [e, R.st_ok]
  split at h1
  · exact ⟨false, by simpa [rpW, RepW, Rep] using r1, by rw [if_neg (by decide)]; exact step1 s1 l1 h1⟩
  · exact ⟨true, by simpa [rpW, RepW, Rep] using r1, by rw [if_pos rfl]; exact h1.now s1 (by simp [rpW, RepW, Rep])⟩
  · exact False.elim h1
theorem se_ife (hc : ST Γ X ρ c FB) (ha : SE Γ X ρ a F) (hb : SE Γ X ρ b G) : SE Γ X ρ (.IfExp c a b pos) fun μ => (FB μ).bind fun z μ => match z with
    | true => F μ
    | false => G μ := fun μ => by
  refine PE.imp (pe_ifExp (hc μ) (ha ((FB μ).st μ)) (hb ((FB μ).st μ))) fun σ H Q ⟨Z, ad, s, l, h⟩ => step s l h fun x μ1 v H1 Z1 ad1 e s1 l1 x1 r1 h1 => ?_
  have r1 : x = v := r1
  subst r1
  rw [e, R.st_ok]
  cases x with
  | true => rw [if_pos rfl]; exact step1 s1 l1 h1
  | false => rw [if_neg (by decide)]; exact step1 s1 l1 h1
/-! ### f-strings -/
theorem fm_no (ha : SE Γ X ρ a F) : SE Γ X ρ (.FormattedValue a (-1) none pos) fun μ => (F μ).bind fun x μ => match view x μ with
    | some s => (ofO (fmT .no s) μ).bind fun x μ => .ok (.t (.str x)) μ
    | none => .bad := fun μ => by
  refine PE.imp (pe_fmt (ha μ)) fun σ H Q ⟨Z, ad, s, l, h⟩ => step s l h fun x μ1 v H1 Z1 ad1 e s1 l1 x1 r1 h1 => ?_
  split at h1
  · rename_i t e3
    obtain ⟨z, e4, g⟩ := Out.ofO h1
    have vw := view_vu s1 r1 e3
    unfold fmT at e4
    split at e4
    · split at e4
      · rename_i hz
        cases e4
        exact .inl ⟨_, vu_str vw, hz, g.now s1 (by simp [rpW, RepW, Rep])⟩
      · cases e4
    · split at e4
      · rename_i hz
        cases e4
        exact .inr ⟨_, vu_int vw, hz, g.now s1 (by simp [rpW, RepW, Rep])⟩
      · cases e4
    · contradiction
    · contradiction
    · cases e4
  · exact False.elim h1
/-- the parts of an f-string -/
def SF (Γ : Tx) (X : Cx) (ρ : Env) (es : List Expr) (F : Str → Sto → R Str) : Prop := ∀ acc μ, ∃ ts, PJ X es ts ∧ ∀ σ H Q, tS Γ ρ μ (fun _ _ _ (a b : Str) => a = b) (F acc μ) σ H Q → tJs ts acc σ H Q
theorem sf_nil : SF Γ X ρ [] fun acc μ => .ok acc μ := fun acc μ => ⟨[], .nil, fun σ H Q ⟨Z, ad, s, l, h⟩ => h.now s rfl⟩
theorem sf_cons {FS : Str → Sto → R Str} (ha : SE Γ X ρ a F) (hr : SF Γ X ρ es FS) : SF Γ X ρ (a :: es) fun acc μ => (F μ).bind fun w μ => match w with
    | .t (.str y) => if (acc ++ y).length ≤ sizeLine then FS (acc ++ y) μ else .bad
    | _ => .bad := fun acc μ => by
  cases e : F μ with
  | ok w μ1 =>
    cases w with
    | t t =>
      cases t with
      | str y =>
        obtain ⟨ts, h1, h2⟩ := hr (acc ++ y) μ1
        refine ⟨_, .cons (ha μ) h1, fun σ H Q ⟨Z, ad, s, l, h⟩ => ?_⟩
        have h : Out Γ (fun _ _ _ (a b : Str) => a = b) Z ad H ((F μ).bind fun w μ => match w with
          | .t (.str y) => if (acc ++ y).length ≤ sizeLine then FS (acc ++ y) μ else .bad
          | _ => .bad) Q := h
        refine step s l h fun x μ2 v H1 Z1 ad1 e' s1 l1 x1 r1 h3 => ?_
        rw [e] at e'
        cases e'
        obtain ⟨h4, h5⟩ := out_if h3
        exact ⟨y, by simpa [rpW, RepW, Rep] using r1, h4, h2 _ _ _ (step1 s1 l1 h5)⟩
      | _ => 
        obtain ⟨ts, h1, h2⟩ := hr acc μ
        exact ⟨_, .cons (ha μ) h1, fun σ H Q ⟨Z, ad, s, l, h⟩ => by simp only [e, R.bind, Out] at h⟩
    | loc n => 
      obtain ⟨ts, h1, h2⟩ := hr acc μ
      exact ⟨_, .cons (ha μ) h1, fun σ H Q ⟨Z, ad, s, l, h⟩ => by simp only [e, R.bind, Out] at h⟩
  | exc _ _ =>
    obtain ⟨ts, h1, h2⟩ := hr acc μ
    exact ⟨_, .cons (ha μ) h1, fun σ H Q ⟨Z, ad, s, l, h⟩ => by simp only [e, R.bind, Out] at h⟩
  | bad =>
    obtain ⟨ts, h1, h2⟩ := hr acc μ
    exact ⟨_, .cons (ha μ) h1, fun σ H Q ⟨Z, ad, s, l, h⟩ => by simp only [e, R.bind, Out] at h⟩
theorem se_fst {FS : Str → Sto → R Str} (h : SF Γ X ρ (a :: b :: es) FS) : SE Γ X ρ (.JoinedStr (a :: b :: es) pos) fun μ => (FS Str.empty μ).bind fun x μ => .ok (.t (.str x)) μ := fun μ => by
  obtain ⟨ts, h1, h2⟩ := h Str.empty μ
  refine PE.imp (pe_joined h1) fun σ H Q ⟨Z, ad, s, l, h⟩ => h2 _ _ _ (step s l h fun x μ1 v H1 Z1 ad1 e s1 l1 x1 r1 h1 => ?_)
  have r1 : x = v := r1
  subst r1
  exact h1.now s1 (by simp [rpW, RepW, Rep])
end
end Sy
end

section
set_option Elab.async false
set_option linter.all false
set_option maxRecDepth 100000
/-! SyKw: f-string parts with a width. -/
namespace Sy
open PySem L2 PyProof.Rows
section
open PySem.Builtin.Str PySem.Builtin.Float
variable {x : Str} {t u : Tok} {n : Nat}
theorem ext_all (x : Str) : strSub x 0 x.length = x := by
  unfold strSub
  have : x.cps.extract 0 x.length = x.cps := by
    show x.cps.extract 0 x.cps.size = x.cps
    simp
  rw [this]
theorem pad_left (k : Nat) : padded x 0 k 32 = x ++ spc k := by
  unfold padded spc
  show _ = Str.append x _
  unfold Str.append
  congr 1
  first | simp | skip
theorem pad_right (k : Nat) : padded x k 0 32 = spc k ++ x := by
  unfold padded spc
  show _ = Str.append _ x
  unfold Str.append
  congr 1
  first | simp | skip
theorem spc_zero (x : Str) : x ++ spc 0 = x ∧ spc 0 ++ x = x := by
  refine ⟨?_, ?_⟩
  · show Str.append x _ = x
    unfold Str.append spc
    simp
  · show Str.append _ x = x
    unfold Str.append spc
    simp
/-- the spec's text and what it is -/
structure SpecIs (sp : Str) (al n : Nat) : Prop where
  ne : (sp.length == 0) = false
  sz : sp.length ≤ sizeLine
  ascii : ((sp.cps.toList.drop 1).any (· ≥ 128) || (sp.cps.getD 0 0 ≥ 128 && !([60, 62, 61, 94] : List Nat).contains (sp.cps.getD 1 0))) = false
  parse : ∀ name, parseFormatSpec sp.cps.toList name 60 = .ok { align := al, width := some n }
  back : (sp.cps.back? == some 0) = false
  few : tooLong n = false
theorem spec_L6 : SpecIs "<6" 60 6 := ⟨by decide +kernel, by decide +kernel, by decide +kernel, fun _ => by kernel_rfl, by decide +kernel, by decide +kernel⟩
theorem spec_R9 : SpecIs ">9" 62 9 := ⟨by decide +kernel, by decide +kernel, by decide +kernel, fun _ => by kernel_rfl, by decide +kernel, by decide +kernel⟩
theorem meets_fmt {sp y : Str} {al : Nat} (h : SpecIs sp al n) (hy : y.length ≤ sizeLine) (hal : (al = 60 ∧ y = x ++ spc (n - x.length)) ∨ (al = 62 ∧ y = spc (n - x.length) ++ x)) (u : Tok) :
    Meets (Builtin.«str.__format__» ⟨[.str x t, .str sp u], []⟩) (fun _ R s => ∀ t' k, R (.ok (.ret (.str y t'))) { s with toks := k }) := by
  apply PySem.W.KPc.meets_of
  intro prog w A s Q E hQ
  unfold Builtin.«str.__format__»
  refine wpAny_bind (wpAny_of_eq (a := (_, _, _)) rfl ?_)
  refine wpAny_bind (wpAny_of_eq (a := some _) rfl ?_)
  have e1 : ¬ ((sp.length == 0) = true) := by rw [h.ne]; decide
  refine wpAny_ite (PySem.W.KPc.ite_no e1 ?_)
  have e2 : ¬ (((sp.cps.toList.drop 1).any (· ≥ 128) || (sp.cps.getD 0 0 ≥ 128 && !([60, 62, 61, 94] : List Nat).contains (sp.cps.getD 1 0))) = true) := by rw [h.ascii]; decide
  refine wpAny_ite (PySem.W.KPc.ite_no e2 ?_)
  refine wpAny_bind (PySem.W.KXf.cut_str ?_)
  have hs : strField x { align := al, width := some n } "str" = .ok (if n ≤ x.length then none else some y) := by
    rcases hal with ⟨rfl, rfl⟩ | ⟨rfl, rfl⟩
    · by_cases q : n ≤ x.length
      · simp [strField, q]
        rfl
      · simp [strField, q, ext_all, ← pad_left]
        rfl
    · by_cases q : n ≤ x.length
      · simp [strField, q]
        rfl
      · simp [strField, q, ext_all, ← pad_right]
        rfl
  have hc : (do
      let f ← parseFormatSpec sp.cps.toList "str" 60
      let f : FormatSpec := if f.type.isNone && sp.cps.back? == some 0 then { f with type := some 0 } else f
      if tooLong (f.width.getD 0) then return none
      return some (← strField x f "str") : Except String (Option (Option Str))) = .ok (some (if n ≤ x.length then none else some y)) := by
    rw [h.parse]
    show (if tooLong ((if (true && (sp.cps.back? == some 0)) = true then ({ align := al, width := some n, type := some 0 } : FormatSpec) else { align := al, width := some n }).width.getD 0) = true then _ else _) = _
    rw [h.back]
    show (if tooLong n = true then _ else _) = _
    rw [h.few]
    show (strField x { align := al, width := some n } "str" >>= fun r => pure (some r)) = _
    rw [hs]
    rfl
  dsimp only
  rw [hc]
  by_cases q : n ≤ x.length
  · rw [if_pos q]
    have hxy : y = x := by
      have z : n - x.length = 0 := by omega
      rcases hal with ⟨_, e⟩ | ⟨_, e⟩
      · rw [e, z]; exact (spc_zero x).1
      · rw [e, z]; exact (spc_zero x).2
    subst hxy
    exact wpAny_bind (wpAny_rule (PySem.W.KXf.ret_same rfl hQ))
  · rw [if_neg q]
    exact PySem.W.KXf.ret_text rfl hy hQ
theorem len_append (a b : Str) : (a ++ b).length = a.length + b.length := by
  show (Str.append a b).length = _
  unfold Str.append Str.length
  simp
theorem len_spc (k : Nat) : (spc k).length = k := by
  unfold spc Str.length
  simp
theorem fit_pad {x : Str} {n : Nat} (h : x.length ≤ sizeLine) (hn : n ≤ sizeLine) : (x ++ spc (n - x.length)).length ≤ sizeLine ∧ (spc (n - x.length) ++ x).length ≤ sizeLine := by
  rw [len_append, len_append, len_spc]
  omega
end
/-- a width in an f-string -/
def fsOk (f : Fs) (sp : Str) : Bool := match f with
  | .no => false
  | .left n => decide (n = 6) && decide (sp = "<6")
  | .right n => decide (n = 9) && decide (sp = ">9")
section
variable {Γ : Tx} {X : Cx} {ρ : Env} {a : Expr} {F : Sto → R W} {pos p2 p3 : Pos} {j : Nat}
theorem se_fmW {f : Fs} {sp : Str} (hf : fsOk f sp = true) (ha : SE Γ X ρ a F) : SE Γ X ρ (.FormattedValue a (-1) (some (.JoinedStr [.Constant (.str sp) j p2] p3)) pos) fun μ => (F μ).bind fun x μ => match view x μ with
    | some s => (ofO (fmT f s) μ).bind fun x μ => .ok (.t (.str x)) μ
    | none => .bad := fun μ => by
  have h0 : PE X (.FormattedValue a (-1) (some (.JoinedStr [.Constant (.str sp) j p2] p3)) pos) (fun σ H Q => tS Γ ρ μ (rpW Γ) (F μ) σ H fun x H1 => ∃ z y : Str, x = .str z ∧ fmT f (.str z) = some y ∧ Q (.str y) H1) := by
    refine ⟨fun pins s σ H Q I h => ?_⟩
    refine wpAny_FormattedValue_spec (thn ((ha μ).run pins s σ H _ I h) fun v s1 ⟨x, H1, I1, r1, z, y, ex, ey, q⟩ => ?_)
    subst ex
    obtain ⟨t, rfl⟩ := r1
    have hsp : PE X (.JoinedStr [.Constant (.str sp) j p2] p3) (tC (.str sp)) := pe_joined1 pe_str
    refine thn (hsp.run pins s1 σ H1 (fun v H => v = .str sp ∧ H = H1) I1 ⟨rfl, rfl⟩) fun r s2 ⟨v2, H2, I2, r2, e1, e2⟩ => ?_
    subst e1 e2
    obtain ⟨t2, rfl⟩ := r2
    refine ⟨sp, t2, rfl, ?_⟩
    cases f with
    | no => cases hf
    | left n =>
      have hf : n = 6 ∧ sp = "<6" := by simpa [fsOk] using hf
      obtain ⟨rfl, rfl⟩ := hf
      have ey : (if z.length ≤ sizeLine then some (z ++ spc (6 - z.length)) else none) = some y := ey
      by_cases hz : z.length ≤ sizeLine
      · rw [if_pos hz] at ey
        cases ey
        exact PySem.W.KXf.field_str rfl rfl spec_L6.ne spec_L6.sz (fun u => meets_fmt spec_L6 (fit_pad hz (by decide)).1 (.inl ⟨rfl, rfl⟩) u) fun t' k => ⟨.str _, H2, I2.tok k, ⟨t', rfl⟩, q⟩
      · rw [if_neg hz] at ey; cases ey
    | right n =>
      have hf : n = 9 ∧ sp = ">9" := by simpa [fsOk] using hf
      obtain ⟨rfl, rfl⟩ := hf
      have ey : (if z.length ≤ sizeLine then some (spc (9 - z.length) ++ z) else none) = some y := ey
      by_cases hz : z.length ≤ sizeLine
      · rw [if_pos hz] at ey
        cases ey
        exact PySem.W.KXf.field_str rfl rfl spec_R9.ne spec_R9.sz (fun u => meets_fmt spec_R9 (fit_pad hz (by decide)).2 (.inr ⟨rfl, rfl⟩) u) fun t' k => ⟨.str _, H2, I2.tok k, ⟨t', rfl⟩, q⟩
      · rw [if_neg hz] at ey; cases ey
  refine PE.imp h0 fun σ H Q ⟨Z, ad, s, l, h⟩ => step s l h fun x μ1 v H1 Z1 ad1 e s1 l1 x1 r1 h1 => ?_
  split at h1
  · rename_i t e3
    obtain ⟨y, e4, g⟩ := Out.ofO h1
    have vw := view_vu s1 r1 e3
    cases t with
    | str z => exact ⟨z, y, vu_str vw, e4, g.now s1 (by simp [rpW, RepW, Rep])⟩
    | int i => cases f <;> first | cases hf | cases e4
    | _ => cases f <;> first | cases hf | cases e4
  · exact False.elim h1
end
end Sy
end

section
set_option Elab.async false
set_option linter.all false
set_option maxRecDepth 100000
/-! SyL: what is walked; targets. -/
namespace Sy
open PySem L2 PyProof.Rows
section
variable {Γ : Tx} {Z Z' Z1 : Addr → Prop} {ad ad' ad1 : List Addr} {μ : Sto} {H H' H1 : Hp} {D : Addr} {o : HO} {c : Cell}
/-- an object that is of no cell and of no tree stays so -/
theorem Ext.keep (x : Ext Z ad H Z' ad' H') (h : H D = some o) (hd : D ∉ ad) (hz : ¬ Z D) : H' D = some o ∧ D ∉ ad' ∧ ¬ Z' D := by
  refine ⟨x.fr D o h hd hz, fun hm => ?_, fun hm => ?_⟩
  · obtain ⟨r, e, n⟩ := x.ap
    rw [e] at hm
    rcases List.mem_append.mp hm with q | q
    · exact hd q
    · rw [n D q] at h; cases h
  · rcases x.nz D hm with q | q | q
    · exact hz q
    · exact hd q
    · rw [q] at h; cases h
/-- .. and may be changed -/
theorem Ste.other (s : Ste Γ Z ad μ H) (n : noFrz o) (hd : D ∉ ad) (hz : ¬ Z D) : Ste Γ Z ad μ (upd H D o) := by
  have npa : ∀ b ∈ ad, b ≠ D := fun b hb e => hd (e ▸ hb)
  have npz : ∀ b, Z b → b ≠ D := fun b hb e => hz (e ▸ hb)
  have zk : ∀ b, Z b → strip (upd H D o) b = strip H b := fun b h => strip_ne n (npz b h)
  refine ⟨s.len, s.nd, fun b h => ?_, fun b ob u e => ?_, fun i b e h1 h2 => ?_⟩
  · rw [upd_ne (npz b h)]; exact s.zd b h
  · by_cases hb : b = D
    · rw [hb, upd_same] at e
      cases e
      exact absurd n id
    · rw [upd_ne hb] at e; exact s.nf b ob u e
  · have hb := npa b (List.mem_of_getElem? h1)
    obtain ⟨⟨o', k1, k2⟩, k3, k4⟩ := s.cel i b e h1 h2
    exact ⟨⟨o', by rw [strip_ne n hb]; exact k1, k2.mono (fun _ z => z) zk⟩, k3, fun f1 => by rw [strip_ne n hb, upd_ne hb]; exact k4 f1⟩
theorem Ext.other (x : Ext Z1 ad1 H1 Z ad H) (h1 : H1 D = none) (hd : D ∉ ad) (hz : ¬ Z D) (n : noFrz o) : Ext Z1 ad1 H1 Z ad (upd H D o) := by
  have ne : ∀ b, H1 b ≠ none → b ≠ D := fun b hb e => hb (e ▸ h1)
  refine ⟨fun a u h ha hz' => ?_, x.zs, fun a h => ?_, x.ap, x.nz, fun a h => ?_, fun a u v h => ?_⟩
  · rw [upd_ne (ne a (by rw [h]; exact fun z => by cases z))]; exact x.fr a u h ha hz'
  · have hz2 := x.zs a h
    rw [strip_ne n (fun e => hz (by rw [← e]; exact hz2))]; exact x.zk a h
  · obtain ⟨r, e, _⟩ := x.ap
    rw [upd_ne (fun q => hd (by rw [← q, e]; exact List.mem_append_left _ h))]; exact x.dm a h
  · rw [upd_ne (ne a (by rw [h]; exact fun z => by cases z))]; exact x.lz a u v h
/-- .. and becomes a cell, or part of a tree -/
theorem Ste.adopt (s : Ste Γ Z ad μ H) (h : H D = some o) (hc : COb Γ Z (strip H) c o) (hd : D ∉ ad) (hz : ¬ Z D) : Ste Γ Z (ad ++ [D]) (μ ++ [⟨c, false, false⟩]) H := by
  have hs := strip_of h hc.noFrz
  refine ⟨by rw [List.length_append, List.length_append, s.len]; rfl, ?_, s.zd, s.nf, fun i b e h1 h2 => ?_⟩
  · refine List.nodup_append.mpr ⟨s.nd, by simp, fun b hb c hc e => ?_⟩
    have : c = D := by simpa using hc
    subst this
    exact hd (e ▸ hb)
  · by_cases hi : i < ad.length
    · rw [List.getElem?_append_left hi] at h1
      rw [List.getElem?_append_left (by rw [← s.len]; exact hi)] at h2
      exact s.cel i b e h1 h2
    · rw [List.getElem?_append_right (by omega)] at h1
      rw [List.getElem?_append_right (by rw [← s.len]; omega)] at h2
      have e0 : i - ad.length = 0 := by
        have := (List.getElem?_eq_some_iff.mp h1).1
        simp at this; omega
      rw [e0] at h1
      rw [← s.len, e0] at h2
      have hb : D = b := by simpa using h1
      have he : (⟨c, false, false⟩ : En) = e := by simpa using h2
      subst hb he
      exact ⟨⟨o, hs, hc⟩, ⟨fun z => (by cases z), fun z => absurd z hz⟩, fun _ => by rw [hs, h]⟩
theorem Ste.adoptT (s : Ste Γ Z ad μ H) (h : H D = some o) (hd : D ∉ ad) : Ste Γ (Zp Z D) ad μ H := by
  refine ⟨s.len, s.nd, fun b hb => ?_, s.nf, fun i b e h1 h2 => ?_⟩
  · rcases hb with hb | hb
    · exact s.zd b hb
    · rw [hb, h]; exact fun z => by cases z
  · obtain ⟨⟨o', k1, k2⟩, k3, k4⟩ := s.cel i b e h1 h2
    refine ⟨⟨o', k1, k2.mono (fun _ z => .inl z) fun _ _ => rfl⟩, k3.trans ⟨.inl, fun z => z.elim id fun q => ?_⟩, k4⟩
    exact absurd (q ▸ List.mem_of_getElem? h1) hd
theorem Ext.adopt (x : Ext Z1 ad1 H1 Z ad H) (h1 : H1 D = none) : Ext Z1 ad1 H1 Z (ad ++ [D]) H := by
  obtain ⟨r, e, n⟩ := x.ap
  refine ⟨x.fr, x.zs, x.zk, ⟨r ++ [D], by rw [e, List.append_assoc], fun a ha => ?_⟩, x.nz, x.dm, x.lz⟩
  rcases List.mem_append.mp ha with q | q
  · exact n a q
  · have : a = D := by simpa using q
    rw [this]; exact h1
theorem Ext.adoptT (x : Ext Z1 ad1 H1 Z ad H) (h1 : H1 D = none) : Ext Z1 ad1 H1 (Zp Z D) ad H :=
  ⟨x.fr, fun a h => .inl (x.zs a h), x.zk, x.ap, fun a h => h.elim (x.nz a) fun q => .inr (.inr (q ▸ h1)), x.dm, x.lz⟩
/-- a new object that was laid ahead of the work is handed on -/
theorem fin_old {k : Bool} {Q : VK} (s : Ste Γ Z ad μ H) (x : Ext Z1 ad1 H1 Z ad H) (h1 : H1 D = none) (h : H D = some o) (hc : COb Γ Z (strip H) c o) (hd : D ∉ ad) (hz : ¬ Z D) (q : Giv Γ Z1 ad1 H1 Q (fin k (.c c) μ)) : Q (.ref D) H := by
  cases k with
  | true =>
    refine q (.loc μ.length) _ rfl _ _ _ _ (s.adopt h hc hd hz) (x.adopt h1) ⟨D, ?_, rfl⟩
    rw [← s.len]
    simp
  | false =>
    exact q (.t c.tree) μ rfl _ _ _ _ (s.adoptT h hd) (x.adoptT h1) ((hc.mono (fun _ z => .inl z) fun _ _ => rfl).rep (strip_of h hc.noFrz) (.inr rfl))
/-- a dict of a tree is locked for good -/
theorem Ste.lockZ (s : Ste Γ Z ad μ H) (h : H D = some o) (hz : Z D) (n : noFrz o) (ni : notIns o) (ob : Obj) : Ste Γ Z ad μ (upd H D (.frz ob o)) ∧ Ext Z ad H Z ad (upd H D (.frz ob o)) := by
  have sl : strip (upd H D (.frz ob o)) = strip H := strip_lock (strip_of h n)
  refine ⟨⟨s.len, s.nd, fun b hb => ?_, fun b o' u e => ?_, fun i b e h1 h2 => ?_⟩, ⟨fun b u hb _ hnz => ?_, fun _ z => z, fun _ _ => by rw [sl], ⟨[], by simp, fun _ h => by simp at h⟩, fun _ z => .inl z, fun b hb => ?_, fun b u v hb => ?_⟩⟩
  · by_cases e : b = D
    · rw [e, upd_same]; exact fun z => by cases z
    · rw [upd_ne e]; exact s.zd b hb
  · by_cases q : b = D
    · rw [q, upd_same] at e
      cases e
      exact ⟨n, ni⟩
    · rw [upd_ne q] at e; exact s.nf b o' u e
  · obtain ⟨⟨o', k1, k2⟩, k3, k4⟩ := s.cel i b e h1 h2
    rw [← sl] at k1 k2
    refine ⟨⟨o', k1, k2⟩, k3, fun f1 => ?_⟩
    have hb : b ≠ D := fun q => by
      have := k3.mpr (q ▸ hz)
      rw [f1] at this; cases this
    rw [sl, upd_ne hb]; exact k4 f1
  · rw [upd_ne (fun e => hnz (by rw [e]; exact hz))]; exact hb
  · by_cases e : b = D
    · rw [e, upd_same]; exact fun z => by cases z
    · rw [upd_ne e]; exact s.dom hb
  · rw [upd_ne (fun e => by rw [e, h] at hb; cases hb; exact n)]; exact hb
end
/-! ### what is walked -/
/-- trees stay, locks stay -/
structure Wkr (Z : Addr → Prop) (H : Hp) (Z' : Addr → Prop) (H' : Hp) : Prop where
  zs : ∀ a, Z a → Z' a
  zk : ∀ a, Z a → strip H' a = strip H a
  lz : ∀ a o u, H a = some (.frz o u) → H' a = some (.frz o u)
section
variable {Γ : Tx} {Z Z' Z1 : Addr → Prop} {ad ad' ad1 : List Addr} {H H' H1 : Hp}
theorem Ext.wk (x : Ext Z ad H Z' ad' H') : Wkr Z H Z' H' := ⟨x.zs, x.zk, x.lz⟩
theorem Wkr.trans {Z2 : Addr → Prop} {H2 : Hp} (x : Wkr Z H Z' H') (y : Wkr Z' H' Z2 H2) : Wkr Z H Z2 H2 :=
  ⟨fun a h => y.zs a (x.zs a h), fun a h => (y.zk a (x.zs a h)).trans (x.zk a h), fun a o u h => y.lz a o u (x.lz a o u h)⟩
theorem Wkr.reps (x : Wkr Z H Z' H') {t : List T} {v : List V} (h : Reps Γ Z (strip H) t v) : Reps Γ Z' (strip H') t v := Reps.mono x.zs x.zk t v h
end
/-- the items come one after the other, whatever becomes of the state -/
def rpI (Γ : Tx) : Rp (List T) L2.It := fun Z1 ad1 H1 xs J => ∀ Z ad μ H, Ste Γ Z ad μ H → Wkr Z1 H1 Z H →
  (∀ i, i < xs.length → J.go i H) ∧ J.stop xs.length H ∧ ∀ i t x H', xs[i]? = some t → J.yld i H x H' → ∃ Z', Ste Γ Z' ad μ H' ∧ Ext Z ad H Z' ad H' ∧ Rep Γ Z' (strip H') t x
def SI (Γ : Tx) (X : Cx) (ρ : Env) (tg iter : Expr) (F : Sto → R (List T)) : Prop := ∀ μ, PI X tg iter (tS Γ ρ μ (rpI Γ) (F μ))
section
variable {Γ : Tx} {X : Cx} {α β γ δ : Type} {rp : Rp α β} {rp' : Rp γ δ} {Z Z1 : Addr → Prop} {ad ad1 : List Addr} {H H1 : Hp} {ρ : Env} {μ : Sto} {σ : L2.St}
variable {e a b c tg iter : Expr} {es rest : List Expr} {F G K : Sto → R W} {FL : Sto → R (List W)} {FB GB : Sto → R Bool} {pos p tpos : Pos}
theorem PI.imp {t t' : TI} (h : PI X tg iter t) (q : ∀ σ H Q, t' σ H Q → t σ H Q) : PI X tg iter t' := ⟨fun pins s σ H Q I w => h.run pins s σ H Q I (q σ H Q w)⟩
theorem PI.or {t t' : TI} (h : PI X tg iter t) (h' : PI X tg iter t') : PI X tg iter fun σ H Q => t σ H Q ∨ t' σ H Q := ⟨fun pins s σ H Q I w => w.elim (h.run pins s σ H Q I) (h'.run pins s σ H Q I)⟩
theorem reps_at {S : Hp} {ts : List T} {vs : List V} {i : Nat} {t : T} {v : V} (h : Reps Γ Z S ts vs) (e : ts[i]? = some t) (e' : vs[i]? = some v) : Rep Γ Z S t v := by
  obtain ⟨v', h1, h2⟩ := reps_get h e
  rw [h1] at e'
  cases e'
  exact h2
theorem rpI_list {x : V} {ts : List T} (h : Rep Γ Z1 (strip H1) (.lst ts) x) : ∃ q vs, x = .ref q ∧ SqL Γ.K H1 q vs ∧ rpI Γ Z1 ad1 H1 ts (Itl Γ.K q) := by
  simp only [Rep] at h
  obtain ⟨q, vs, rfl, hz, hs, hr⟩ := h
  refine ⟨q, vs, rfl, sqL_of hs, fun Z ad μ H s x => ?_⟩
  have hs' : strip H q = some (.lst vs) := (x.zk q hz).trans hs
  have hr' := x.reps hr
  refine ⟨fun i hi => ⟨vs, vs[i]'(by rw [← hr.length]; exact hi), sqL_of hs', List.getElem?_eq_getElem _⟩, ⟨vs, sqL_of hs', by rw [hr.length]; exact Nat.le_refl _⟩, fun i t v H' e y => ?_⟩
  obtain ⟨rfl, y⟩ := y
  exact ⟨Z, s, Ext.refl s, reps_at hr' e (y vs (sqL_of hs'))⟩
theorem rpI_tup {x : V} {ts : List T} (h : Rep Γ Z1 (strip H1) (.tup ts) x) : ∃ q vs, x = .ref q ∧ SqT Γ.K H1 q vs ∧ rpI Γ Z1 ad1 H1 ts (Itt Γ.K q) := by
  simp only [Rep] at h
  obtain ⟨q, vs, rfl, hq, hr⟩ := h
  refine ⟨q, vs, rfl, sqT_of hq, fun Z ad μ H s x => ?_⟩
  have hq' : (Z q ∧ strip H q = some (.tup vs)) ∨ KTup Γ.K q vs := hq.imp (fun h => ⟨x.zs q h.1, (x.zk q h.1).trans h.2⟩) id
  have hr' := x.reps hr
  refine ⟨fun i hi => ⟨vs, vs[i]'(by rw [← hr.length]; exact hi), sqT_of hq', List.getElem?_eq_getElem _⟩, ⟨vs, sqT_of hq', by rw [hr.length]; exact Nat.le_refl _⟩, fun i t v H' e y => ?_⟩
  obtain ⟨rfl, y⟩ := y
  exact ⟨Z, s, Ext.refl s, reps_at hr' e (y vs (sqT_of hq'))⟩
/-- for x in a list or a tuple -/
def iSeq (K : PySem.W.Frag) (tl : TE) : TI := fun σ H R => tl σ H fun x H1 => ∃ a, x = .ref a ∧ ((∃ xs, SqL K H1 a xs ∧ R (Itl K a) H1) ∨ ∃ xs, SqT K H1 a xs ∧ R (Itt K a) H1)
theorem pi_seq {l : Expr} {tl : TE} (hl : PE X l tl) : PI X tg l (iSeq X.K tl) := by
  refine ⟨fun pins s σ H R I h => ?_⟩
  refine thn (hl.run pins s σ H _ I h) fun v s1 ⟨x, H1, I1, r1, q1⟩ => ?_
  obtain ⟨a, e, q⟩ := q1
  subst e
  cases r1
  rcases q with ⟨xs, hq, q⟩ | ⟨xs, hq, q⟩
  · obtain ⟨its, rv, p, hz⟩ := I1.list hq
    refine wpAny_pyIter_list p.isList ?_
    refine ⟨s1.heap.objs.size, [s1.heap.objs.size], _, _, H1, rfl, I1.kept (t' := s1.toks) fun b o e => Heap.get?_push_of_some _ e, turn_list a _, ⟨_, Heap.get?_push_size _ rfl, rfl, rfl⟩, fun b hb => ?_, q⟩
    have e : b = s1.heap.objs.size := by simpa using hb
    subst e
    exact I1.fpOk (Nat.le_refl _) (I1.hok.fresh (Nat.le_refl _))
  · obtain ⟨its, rv, p, hz⟩ := I1.tuple hq
    refine wpAny_pyIter_tuple (show s1.heap.IsTuple a its.toArray from p) ?_
    refine ⟨s1.heap.objs.size, [s1.heap.objs.size], _, _, H1, rfl, I1.kept (t' := s1.toks) fun b o e => Heap.get?_push_of_some _ e, turn_tuple a _, ⟨_, Heap.get?_push_size _ rfl, rfl, rfl⟩, fun b hb => ?_, q⟩
    have e : b = s1.heap.objs.size := by simpa using hb
    subst e
    exact I1.fpOk (Nat.le_refl _) (I1.hok.fresh (Nat.le_refl _))
theorem out_iI {xs : List T} {J : L2.It} {Q : L2.It → Hp → Prop} (s : Ste Γ Z ad μ H) (h : Out Γ (rpI Γ) Z ad H (.ok xs μ) Q) (w : rpI Γ Z ad H xs J) : Q J H := h.now s w
theorem si_seq (hK : X.K = Γ.K) (he : SE Γ X ρ iter F) : SI Γ X ρ tg iter fun μ => (F μ).bind fun x μ => (toT x μ).bind fun s μ => ofO (seqT s) μ := fun μ => by
  refine PI.imp (pi_seq (he μ)) fun σ H Q ⟨Z, ad, s, l, h⟩ => step s l h fun x μ1 v H1 Z1 ad1 e s1 l1 x1 r1 h1 => ?_
  obtain ⟨t, μ', Z', s2, x2, r2, h2⟩ := out_toT s1 r1 h1
  cases t <;> first | exact False.elim h2 | skip
  · obtain ⟨q, vs, rfl, hq, w⟩ := rpI_tup (ad1 := ad1) r2
    exact ⟨q, rfl, .inr ⟨vs, hK ▸ hq, hK ▸ h2.now s2 w⟩⟩
  · obtain ⟨q, vs, rfl, hq, w⟩ := rpI_list (ad1 := ad1) r2
    exact ⟨q, rfl, .inl ⟨vs, hK ▸ hq, hK ▸ h2.now s2 w⟩⟩
theorem rangeT_length : ∀ (n : Nat) (lo : Int), (rangeT lo n).length = n
  | 0, _ => rfl
  | n + 1, lo => by
    show (rangeT (lo + 1) n).length + 1 = n + 1
    rw [rangeT_length n]
theorem rangeT_get : ∀ (n : Nat) (lo : Int) (i : Nat) (t : T), (rangeT lo n)[i]? = some t → t = .int (lo + i)
  | 0, _, _, _, h => by cases h
  | n + 1, lo, 0, t, h => by
    have h : T.int lo = t := by simpa [rangeT] using h
    rw [← h]; simp
  | n + 1, lo, i + 1, t, h => by
    have h : (rangeT (lo + 1) n)[i]? = some t := by simpa [rangeT] using h
    rw [rangeT_get n (lo + 1) i t h]
    congr 1
    push_cast
    omega
theorem rpI_range {lo : Int} {n : Nat} : rpI Γ Z1 ad1 H1 (rangeT lo n) (Itr lo n) := fun Z ad μ H s x => by
  rw [rangeT_length]
  refine ⟨fun i hi => hi, Nat.le_refl _, fun i t v H' e y => ?_⟩
  obtain ⟨rfl, rfl⟩ := y
  exact ⟨Z, s, Ext.refl s, by rw [rangeT_get n lo i t e]; simp [Rep]⟩
theorem si_rng1 (hg : Gl X "range") (hm : X.mg "range" = none) (ha : SE Γ X ρ a F) (hp : plainX a = true) : SI Γ X ρ tg (.Call (.Name "range" p) [a] [] pos) fun μ => (F μ).bind fun x μ => match x with
    | .t (.int j) => if -(2 ^ 62) ≤ j ∧ j < 2 ^ 62 then .ok (rangeT 0 j.toNat) μ else .bad
    | _ => .bad := fun μ => by
  refine PI.imp (pi_range1 hg hm (pa_cons (ha μ) pa_nil (star_of hp)) (star_of hp)) fun σ H Q ⟨Z, ad, s, l, h⟩ => step s l h fun x μ1 v H1 Z1 ad1 e s1 l1 x1 r1 h1 => ?_
  split at h1
  · rename_i j
    obtain ⟨⟨h2, h3⟩, h4⟩ := out_if h1
    have r1 : v = .int j := by simpa [rpW, RepW, Rep] using r1
    exact ⟨j, by rw [r1], h2, h3, h4.now s1 rpI_range⟩
  · exact False.elim h1
theorem si_rng2 (hg : Gl X "range") (hm : X.mg "range" = none) (ha : SE Γ X ρ a F) (hb : SE Γ X ρ b G) (hp : plainX a = true) (hq : plainX b = true) : SI Γ X ρ tg (.Call (.Name "range" p) [a, b] [] pos) fun μ => (F μ).bind fun x μ => (G μ).bind fun y μ => match x, y with
    | .t (.int i), .t (.int j) => if -(2 ^ 62) ≤ i ∧ i < 2 ^ 62 ∧ -(2 ^ 62) ≤ j ∧ j < 2 ^ 62 then .ok (rangeT i (j - i).toNat) μ else .bad
    | _, _ => .bad := fun μ => by
  refine PI.imp (pi_range2 hg hm (pa_cons (ha μ) (pa_cons (hb ((F μ).st μ)) pa_nil (star_of hq)) (star_of hp)) (by rw [star_of hp, star_of hq]; rfl) (star_of hq)) fun σ H Q ⟨Z, ad, s, l, h⟩ => step s l h fun x μ1 v H1 Z1 ad1 e s1 l1 x1 r1 h1 => ?_
  rw [e, R.st_ok]
  refine step s1 l1 h1 fun y μ2 u H2 Z2 ad2 e2 s2 l2 x2 r2 h2 => ?_
  split at h2
  · rename_i i j
    obtain ⟨h3, h4⟩ := out_if h2
    have r1 : v = .int i := by simpa [rpW, RepW, Rep] using r1
    have r2 : u = .int j := by simpa [rpW, RepW, Rep] using r2
    exact ⟨i, j, by rw [r1, r2], h3, h4.now s2 rpI_range⟩
  · exact False.elim h2
/-! ### pairs -/
theorem pair_rep {t u : T} {x y : V} {q : Addr} (s : Ste Γ Z ad μ H) (hq : H q = none) (h1 : Rep Γ Z (strip H) t x) (h2 : Rep Γ Z (strip H) u y) :
    ∃ Z', Ste Γ Z' ad μ (upd H q (.tup [x, y])) ∧ Ext Z ad H Z' ad (upd H q (.tup [x, y])) ∧ Rep Γ Z' (strip (upd H q (.tup [x, y]))) (.tup [t, u]) (.ref q) := by
  obtain ⟨s1, x1⟩ := s.tree (o := .tup [x, y]) hq trivial
  refine ⟨_, s1, x1, ?_⟩
  simp only [Rep]
  exact ⟨q, [x, y], rfl, .inl ⟨.inr rfl, strip_at trivial⟩, x1.reps (.cons h1 (.cons h2 (reps_nil.mpr rfl)))⟩
theorem enumT_length : ∀ (xs : List T) (n : Nat), (enumT n xs).length = xs.length
  | [], _ => rfl
  | x :: xs, n => by
    show (enumT (n + 1) xs).length + 1 = xs.length + 1
    rw [enumT_length xs]
theorem enumT_get : ∀ (xs : List T) (n i : Nat) (t : T), (enumT n xs)[i]? = some t → ∃ x, xs[i]? = some x ∧ t = .tup [.int ((n + i : Nat) : Int), x]
  | [], _, _, _, h => by cases h
  | x :: xs, n, 0, t, h => by
    have h : T.tup [.int (n : Int), x] = t := by simpa [enumT] using h
    exact ⟨x, rfl, h.symm⟩
  | x :: xs, n, i + 1, t, h => by
    have h : (enumT (n + 1) xs)[i]? = some t := by simpa [enumT] using h
    obtain ⟨y, h1, h2⟩ := enumT_get xs (n + 1) i t h
    exact ⟨y, by simpa using h1, by rw [h2]; congr 4; omega⟩
theorem pairsT_length : ∀ (xs ys : List T), (pairsT xs ys).length = min xs.length ys.length
  | [], ys => by simp [pairsT]
  | x :: xs, [] => by simp [pairsT]
  | x :: xs, y :: ys => by
    show (pairsT xs ys).length + 1 = _
    rw [pairsT_length xs ys]
    simp only [List.length_cons]
    omega
theorem pairsT_get : ∀ (xs ys : List T) (i : Nat) (t : T), (pairsT xs ys)[i]? = some t → ∃ x y, xs[i]? = some x ∧ ys[i]? = some y ∧ t = .tup [x, y]
  | [], ys, _, _, h => by simp [pairsT] at h
  | x :: xs, [], _, _, h => by simp [pairsT] at h
  | x :: xs, y :: ys, 0, t, h => by
    have h : T.tup [x, y] = t := by simpa [pairsT] using h
    exact ⟨x, y, rfl, rfl, h.symm⟩
  | x :: xs, y :: ys, i + 1, t, h => by
    have h : (pairsT xs ys)[i]? = some t := by simpa [pairsT] using h
    obtain ⟨a, b, h1, h2, h3⟩ := pairsT_get xs ys i t h
    exact ⟨a, b, by simpa using h1, by simpa using h2, h3⟩
theorem rpI_enum {x : V} {ts : List T} (h : Rep Γ Z1 (strip H1) (.lst ts) x) : ∃ q vs, x = .ref q ∧ SqL Γ.K H1 q vs ∧ rpI Γ Z1 ad1 H1 (enumT 0 ts) (Ite Γ.K q) := by
  simp only [Rep] at h
  obtain ⟨q, vs, rfl, hz, hs, hr⟩ := h
  refine ⟨q, vs, rfl, sqL_of hs, fun Z ad μ H s x => ?_⟩
  have hs' : strip H q = some (.lst vs) := (x.zk q hz).trans hs
  have hr' := x.reps hr
  rw [enumT_length]
  refine ⟨fun i hi => ⟨vs, vs[i]'(by rw [← hr.length]; exact hi), sqL_of hs', List.getElem?_eq_getElem _⟩, ⟨vs, sqL_of hs', by rw [hr.length]; exact Nat.le_refl _⟩, fun i t v H' e y => ?_⟩
  obtain ⟨q', w, rfl, hn, rfl, y⟩ := y
  obtain ⟨u, e1, rfl⟩ := enumT_get _ _ _ _ e
  exact pair_rep s hn (by simp [Rep]) (reps_at hr' e1 (y vs (sqL_of hs')))
theorem si_enumL {elts : List Expr} {kk : Nat} (hK : X.K = Γ.K) (hg : Gl X "enumerate") (hm : X.mg "enumerate" = none) (ha : SE Γ X ρ a F) (hp : plainX a = true) (hl : ∀ μ μ1 μ2 x s, F μ = .ok x μ1 → toT x μ1 = .ok s μ2 → ∃ ts, s = .lst ts) :
    SI Γ X ρ (.Tuple elts kk tpos) (.Call (.Name "enumerate" p) [a] [] pos) fun μ => (F μ).bind fun x μ => (toT x μ).bind fun s μ => (ofO (seqT s) μ).bind fun xs μ => .ok (enumT 0 xs) μ := fun μ => by
  refine PI.imp (pi_enum hg hm (pa_cons (ha μ) pa_nil (star_of hp)) (star_of hp)) fun σ H Q ⟨Z, ad, s, l, h⟩ => step s l h fun x μ1 v H1 Z1 ad1 e s1 l1 x1 r1 h1 => ?_
  cases q : toT x μ1 with
  | exc _ _ => rw [q] at h1; exact False.elim h1
  | bad => rw [q] at h1; exact False.elim h1
  | ok t μ2 =>
    obtain ⟨ts, rfl⟩ := hl _ _ _ _ _ e q
    obtain ⟨Z', s2, x2, r2⟩ := toT_ok s1 r1 q
    rw [q] at h1
    have h2 : Out Γ (rpI Γ) Z' ad1 H1 (.ok (enumT 0 ts) μ2) Q := Out.ext (r := .ok (enumT 0 ts) μ2) h1 x2
    obtain ⟨q', vs, rfl, hq, w⟩ := rpI_enum (ad1 := ad1) r2
    exact ⟨q', vs, rfl, hK ▸ hq, hK ▸ h2.now s2 w⟩
theorem rpI_zip {x y : V} {ts us : List T} (h : Rep Γ Z1 (strip H1) (.lst ts) x) (h' : Rep Γ Z1 (strip H1) (.lst us) y) : ∃ q q' vs vs', x = .ref q ∧ y = .ref q' ∧ SqL Γ.K H1 q vs ∧ SqL Γ.K H1 q' vs' ∧ rpI Γ Z1 ad1 H1 (pairsT ts us) (Itz Γ.K q q') := by
  simp only [Rep] at h h'
  obtain ⟨q, vs, rfl, hz, hs, hr⟩ := h
  obtain ⟨q', vs', rfl, hz', hs2, hr2⟩ := h'
  refine ⟨q, q', vs, vs', rfl, rfl, sqL_of hs, sqL_of hs2, fun Z ad μ H s x => ?_⟩
  have k1 : strip H q = some (.lst vs) := (x.zk q hz).trans hs
  have k2 : strip H q' = some (.lst vs') := (x.zk q' hz').trans hs2
  rw [pairsT_length]
  refine ⟨fun i hi => ⟨vs, vs', vs[i]'(by rw [← hr.length]; omega), vs'[i]'(by rw [← hr2.length]; omega), sqL_of k1, sqL_of k2, List.getElem?_eq_getElem _, List.getElem?_eq_getElem _⟩, ⟨vs, vs', sqL_of k1, sqL_of k2, by rw [← hr.length, ← hr2.length]; omega⟩, fun i t v H' e y => ?_⟩
  obtain ⟨p', w, w', rfl, hn, rfl, y1, y2⟩ := y
  obtain ⟨u, u', e1, e2, rfl⟩ := pairsT_get _ _ _ _ e
  exact pair_rep s hn (reps_at (x.reps hr) e1 (y1 vs (sqL_of k1))) (reps_at (x.reps hr2) e2 (y2 vs' (sqL_of k2)))
theorem si_zip {elts : List Expr} {kk : Nat} (hK : X.K = Γ.K) (hg : Gl X "zip") (hm : X.mg "zip" = none) (ha : SE Γ X ρ a F) (hb : SE Γ X ρ b G) (hp : plainX a = true) (hq : plainX b = true) :
    SI Γ X ρ (.Tuple elts kk tpos) (.Call (.Name "zip" p) [a, b] [] pos) fun μ => (F μ).bind fun x μ => (G μ).bind fun y μ => (toT x μ).bind fun s μ => (toT y μ).bind fun t μ => match s, t with
    | .lst xs, .lst ys => .ok (pairsT xs ys) μ
    | _, _ => .bad := fun μ => by
  refine PI.imp (pi_zip hg hm (pa_cons (ha μ) (pa_cons (hb ((F μ).st μ)) pa_nil (star_of hq)) (star_of hp)) (star_of hp) (by rw [star_of hq]; rfl)) fun σ H Q ⟨Z, ad, s, l, h⟩ => step s l h fun x μ1 v H1 Z1 ad1 e s1 l1 x1 r1 h1 => ?_
  rw [e, R.st_ok]
  refine step s1 l1 h1 fun y μ2 u H2 Z2 ad2 e2 s2 l2 x2 r2 h2 => ?_
  obtain ⟨t1, μ3, Z3, s3, x3, r3, h3⟩ := out_toT s2 (x2.repW r1) h2
  obtain ⟨t2, μ4, Z4, s4, x4, r4, h4⟩ := out_toT s3 (x3.repW r2) h3
  have r3 := x4.rep r3
  split at h4
  · obtain ⟨q1, q2, vs, vs', rfl, rfl, k1, k2, w⟩ := rpI_zip (ad1 := ad2) r3 r4
    exact ⟨q1, q2, vs, vs', rfl, hK ▸ k1, hK ▸ k2, hK ▸ h4.now s4 w⟩
  · exact False.elim h4
/-! ### the items of a dict: it is locked for good -/
def iItemsL (td : TE) : TI := fun σ H R => td σ H fun x H1 => ∃ d kvs, x = .ref d ∧ ((H1 d = some (.dK kvs) ∧ ∀ o, R (Iti d o kvs) (upd H1 d (.frz o (.dK kvs)))) ∨ ∃ o, H1 d = some (.frz o (.dK kvs)) ∧ R (Iti d o kvs) H1)
theorem pi_itemsL {elts : List Expr} {kk : Nat} {apos cpos : Pos} {td : TE} (he : PE X a td) (hbase : attributeBase a "items" X.env (eval a X.env) = eval a X.env) (hline : (apos.endLine == cpos.line) = true) :
    PI X (.Tuple elts kk tpos) (.Call (.Attribute a "items" apos) [] [] cpos) (iItemsL td) := by
  refine ⟨fun pins s σ H R I h => ?_⟩
  refine wpAny_Call_method (T := "dict") (id := "dict.items") hbase rfl hline F.plainAttrs_dict F.slot_dict_items F.type_dict_items (thn (he.run pins s σ H _ I h) fun u s1 ⟨x, H1', I1', rx, d, kvs, ex, hd'⟩ => ?_)
  subst ex
  obtain rfl : u = Value.ref d := rx
  have key : ∃ H1 o, Inv X pins σ H1 s1 ∧ H1 d = some (.frz o (.dK kvs)) ∧ R (Iti d o kvs) H1 := by
    rcases hd' with ⟨hd, q⟩ | ⟨o, hd, q⟩
    · obtain ⟨od, I2⟩ := I1'.lock hd trivial
      exact ⟨_, od, I2, upd_same, q od⟩
    · exact ⟨_, o, I1', hd, q⟩
  obtain ⟨H1, o, I1, hd, q⟩ := key
  obtain ⟨hs, hgd, hx, es, ep, vs, hdt, hsz, kv, hm⟩ := I1.frzK hd
  have hl : kvs.length = vs.length := Paired.length kv
  refine ⟨hm.dictOf.typeIs, hm.dictOf.mapOf.noDict, ?_⟩
  have I2 : Inv X pins σ H1 { s1 with heap := s1.heap.push { cls := .type "dict_items", data := .fields #[.ref d] } } := I1.kept (t' := s1.toks) fun b ob q => Heap.get?_push_of_some _ q
  have fin : wpAny (model X.prog X.w) X.A (pyIter (.ref s1.heap.objs.size)) (PIE X pins σ (.Tuple elts kk tpos) R) X.xe { s1 with heap := s1.heap.push { cls := .type "dict_items", data := .fields #[.ref d] } } := by
    refine wpAny_pyIter_items (d := d) (knd := mixKind X.prog X.w) ⟨_, Heap.get?_push_size _ rfl, rfl, rfl⟩ (hm.push _) (pi_one (tk := s1.toks) I2 _ (turn_items _ hdt) ⟨.none, .none, ?_⟩ q)
    rw [hl]
    exact Heap.get?_push_size _ rfl
  show wpAny _ _ (callWith cpos (.builtin "dict.items") [.ref d] [] []) _ X.xe s1
  exact method_meetsIn F.slot_dict_items F.entry_dict_items rfl (PySem.evalArgs_none ⟨rfl, hm.dictOf.typeIs, F.args_dict_items_1 _, _, meets_dict_items (mixKind X.prog X.w) d hs, ⟨vs, hm.dictOf⟩, fin⟩)
theorem rep_key {S : Hp} : ∀ k : DK, Rep Γ Z S (keyT k) (kV k)
  | .inl i => by simp [keyT, kV, Rep]
  | .inr x => by simp [keyT, kV, Rep]
theorem rpI_items {d : Addr} {o : Obj} {ks : List DK} {ts : List T} {kvs : List (Key × V)} (hz : Z1 d) (hd : H1 d = some (.frz o (.dK kvs))) (h1 : ks = kvs.map (·.1)) (h2 : Reps Γ Z1 (strip H1) ts (kvs.map (·.2))) : rpI Γ Z1 ad1 H1 (pairsT (ks.map keyT) ts) (Iti d o kvs) := fun Z ad μ H s x => by
  have hd' := x.lz _ _ _ hd
  have hr := x.reps h2
  have hl : ts.length = kvs.length := by rw [h2.length, List.length_map]
  have hl2 : (pairsT (ks.map keyT) ts).length = kvs.length := by
    rw [pairsT_length, List.length_map, h1, List.length_map, hl, Nat.min_self]
  rw [hl2]
  refine ⟨fun i hi => ⟨hd', hi⟩, ⟨hd', Nat.le_refl _⟩, fun i t v H' e y => ?_⟩
  obtain ⟨q, k, w, e1, rfl, hn, rfl⟩ := y
  obtain ⟨u, u', e2, e3, rfl⟩ := pairsT_get _ _ _ _ e
  have hu : u = keyT k := by
    rw [h1, List.getElem?_map, List.getElem?_map, e1] at e2
    exact (Option.some.inj e2).symm
  rw [hu]
  exact pair_rep s hn (rep_key k) (reps_at hr e3 (by rw [List.getElem?_map, e1]; rfl))
theorem si_items {elts : List Expr} {kk : Nat} {apos cpos : Pos} (ha : SE Γ X ρ a F) (hb : baseX a = true) (hline : (apos.endLine == cpos.line) = true) :
    SI Γ X ρ (.Tuple elts kk tpos) (.Call (.Attribute a "items" apos) [] [] cpos) fun μ => (F μ).bind fun x μ => (toT x μ).bind fun s μ => match s with
    | .dct ks vs => .ok (pairsT (ks.map keyT) vs) μ
    | _ => .bad := fun μ => by
  refine PI.imp (pi_itemsL (ha μ) (base_of hb) hline) fun σ H Q ⟨Z, ad, s, l, h⟩ => step s l h fun x μ1 v H1 Z1 ad1 e s1 l1 x1 r1 h1 => ?_
  obtain ⟨t, μ', Z', s2, x2, r2, h2⟩ := out_toT s1 r1 h1
  split at h2
  · rename_i ks vs
    simp only [Rep] at r2
    obtain ⟨d, o, ws, rfl, hz, hs, ⟨kvs, rfl, hk, hw⟩, hr⟩ := r2
    subst hw
    refine ⟨d, kvs, rfl, ?_⟩
    rcases rd_of hs with q | ⟨ob, q⟩
    · refine .inl ⟨q, fun ob => ?_⟩
      obtain ⟨s3, x3⟩ := s2.lockZ q hz trivial trivial ob
      exact (Out.ext h2 x3).now s3 (rpI_items (x3.zs d hz) upd_same hk (x3.reps hr))
    · exact .inr ⟨ob, q, h2.now s2 (rpI_items hz q hk hr)⟩
  · exact False.elim h2
end
end Sy
end

section
set_option Elab.async false
set_option linter.all false
set_option maxRecDepth 100000
/-! SyM: targets, stores. -/
namespace Sy
open PySem L2 PyProof.Rows
/-- the slots as they are behind a store into some of them -/
def rpG' (Γ : Tx) (σ0 : L2.St) (sl : List Nat) : Rp Env L2.St := fun Z ad H ρ σ => Slo Γ Z ad ρ σ H ∧ σ.length = σ0.length ∧ ∀ i, i ∉ sl → σ[i]? = σ0[i]?
def TGo (Γ : Tx) (sl : List Nat) (w : W) (ρ : Env) (μ : Sto) (r : R Env) : TG := fun v σ H Q => ∃ Z ad, Ste Γ Z ad μ H ∧ Slo Γ Z ad ρ σ H ∧ RepW Γ Z ad (strip H) w v ∧ Out Γ (rpG' Γ σ sl) Z ad H r Q
def SGt (Γ : Tx) (X : Cx) (sl : List Nat) (e : Expr) (F : W → Env → Sto → R Env) : Prop := ∀ w ρ μ, PG X e (TGo Γ sl w ρ μ (F w ρ μ))
def SGts (Γ : Tx) (X : Cx) (sl : List Nat) (es : List Expr) (F : List W → Env → Sto → R Env) : Prop := ∀ w ρ μ, PGs X es fun v σ H Q => ∃ Z ad, Ste Γ Z ad μ H ∧ Slo Γ Z ad ρ σ H ∧ RepWs Γ Z ad (strip H) w v ∧ Out Γ (rpG' Γ σ sl) Z ad H (F w ρ μ) Q
section
variable {Γ : Tx} {X : Cx} {α β γ δ : Type} {rp : Rp α β} {rp' : Rp γ δ} {Z Z1 : Addr → Prop} {ad ad1 : List Addr} {H H1 : Hp} {ρ : Env} {μ : Sto} {σ : L2.St}
variable {e a b c tg iter : Expr} {es rest : List Expr} {F G K : Sto → R W} {FL : Sto → R (List W)} {FB GB : Sto → R Bool} {pos p tpos : Pos} {sl sl' : List Nat}
theorem PG.imp {t t' : TG} (h : PG X e t) (q : ∀ v σ H Q, t' v σ H Q → t v σ H Q) : PG X e t' := ⟨fun pins s σ H v u Q I r w => h.run pins s σ H v u Q I r (q v σ H Q w)⟩
theorem PGs.imp {t t' : TGs} (h : PGs X es t) (q : ∀ v σ H Q, t' v σ H Q → t v σ H Q) : PGs X es t' := ⟨fun pins s σ H v u Q I r w => h.run pins s σ H v u Q I r (q v σ H Q w)⟩
theorem Slo.set {w : W} {v : V} {i : Nat} (l : Slo Γ Z ad ρ σ H) (h : RepW Γ Z ad (strip H) w v) : Slo Γ Z ad (ρ.set i (some w)) (σ.set i (some v)) H := by
  refine ⟨by rw [List.length_set, List.length_set]; exact l.len, fun j w' e => ?_⟩
  by_cases hj : i = j
  · subst hj
    have hl : i < ρ.length := by
      have := (List.getElem?_eq_some_iff.mp e).1
      simpa using this
    rw [List.getElem?_set_self hl] at e
    have e : w = w' := Option.some.inj (Option.some.inj e)
    subst e
    exact ⟨v, List.getElem?_set_self (by rw [← l.len]; exact hl), h⟩
  · rw [List.getElem?_set_ne hj] at e
    rw [List.getElem?_set_ne hj]
    exact l.sl j w' e
theorem sg_nm {i : Nat} {x : Str} (hN : X.N.Nodup) (hi : X.N[i]? = some x) (hx : Loc X.env.scope x) (hf : X.fn x = true ∨ X.env.scope.names.lookup x = some .local) :
    SGt Γ X [i] (.Name x pos) fun w ρ μ => if i < ρ.length then .ok (ρ.set i (some w)) μ else .bad := fun w ρ μ => by
  refine PG.imp (pg_name hN hi hx hf) fun v σ H Q ⟨Z, ad, s, l, r, h⟩ => ?_
  obtain ⟨_, h⟩ := out_if h
  exact h.now s ⟨l.set r, by rw [List.length_set], fun j hj => List.getElem?_set_ne (fun e => hj (by simp [e]))⟩
theorem sgs_nil : SGts Γ X sl [] fun ws ρ μ => match ws with | [] => .ok ρ μ | _ => .bad := fun ws ρ μ => by
  refine PGs.imp pgs_nil fun v σ H Q ⟨Z, ad, s, l, r, h⟩ => ?_
  cases ws with
  | nil => exact ⟨r, h.now s ⟨l, rfl, fun _ _ => rfl⟩⟩
  | cons _ _ => exact False.elim h
theorem Out.byRp {rp2 : Rp α β} {r : R α} {Q : β → Hp → Prop} (h : Out Γ rp Z ad H r Q) (q : ∀ Z' ad' H' a b, rp2 Z' ad' H' a b → rp Z' ad' H' a b) : Out Γ rp2 Z ad H r Q := by
  cases r with
  | ok a μ' => exact fun b H' Z' ad' s x r => h b H' Z' ad' s x (q _ _ _ _ _ r)
  | exc _ _ => exact h
  | bad => exact h
def isNm : Expr → Bool
  | .Starred _ _ => false
  | _ => true
theorem sgs_cons {FG : W → Env → Sto → R Env} {FGs : List W → Env → Sto → R Env} (h1 : SGt Γ X sl e FG) (h2 : SGts Γ X sl' es FGs) (hs : isNm e = true) :
    SGts Γ X (sl ++ sl') (e :: es) fun ws ρ μ => match ws with | w :: ws => (FG w ρ μ).bind fun ρ μ => FGs ws ρ μ | [] => .bad := fun ws ρ μ => by
  have hs' : (assignEach (e :: es) X.env).map (·.2) = assign e X.env :: (assignEach es X.env).map (·.2) := by
    cases e <;> first | rfl | cases hs
  cases ws with
  | nil => exact ⟨fun _ _ _ _ _ _ _ _ _ ⟨_, _, _, _, _, h⟩ => False.elim h⟩
  | cons w ws =>
    cases q : FG w ρ μ with
    | exc _ _ => exact ⟨fun _ _ _ _ _ _ _ _ _ ⟨_, _, _, _, _, h⟩ => by simp only [q, R.bind, Out] at h⟩
    | bad => exact ⟨fun _ _ _ _ _ _ _ _ _ ⟨_, _, _, _, _, h⟩ => by simp only [q, R.bind, Out] at h⟩
    | ok ρ1 μ1 =>
      refine PGs.imp (pgs_cons (h1 w ρ μ) (h2 ws ρ1 μ1) hs') fun v σ H Q ⟨Z, ad, s, l, r, h⟩ => ?_
      obtain ⟨v, vr, rfl, r1, r2⟩ := r
      refine ⟨v, vr, rfl, Z, ad, s, l, r1, ?_⟩
      simp only [q, R.bind] at h ⊢
      refine fun σ1 H1 Z1 ad1 s1 x1 ⟨l1, n1, k1⟩ => ⟨Z1, ad1, s1, l1, x1.repWs r2, ?_⟩
      exact (Out.ext (r := FGs ws ρ1 μ1) h x1).byRp fun Z' ad' H' ρ' σ' ⟨k, n, q⟩ => ⟨k, n.trans n1, fun i hi => (q i fun z => hi (List.mem_append_right _ z)).trans (k1 i fun z => hi (List.mem_append_left _ z))⟩
def nosX (es : List Expr) : Bool := es.all isNm
theorem each_of : ∀ {es : List Expr} {env : PySem.Env}, nosX es = true → (assignEach es env).length = es.length ∧ (assignEach es env).findIdx? (·.1) = none
  | [], env, _ => ⟨rfl, rfl⟩
  | e :: es, env, h => by
    have h : isNm e = true ∧ nosX es = true := by simpa [nosX] using h
    obtain ⟨i1, i2⟩ := each_of (env := env) h.2
    have q : assignEach (e :: es) env = (false, assign e env) :: assignEach es env := by
      cases e <;> first | rfl | cases h.1
    rw [q]
    refine ⟨by rw [List.length_cons, List.length_cons, i1], ?_⟩
    rw [List.findIdx?_cons, i2]
    rfl
theorem reps_ws {S : Hp} : ∀ {ts : List T} {vs : List V}, Reps Γ Z S ts vs → RepWs Γ Z ad S (ts.map .t) vs
  | [], _, h => reps_nil.mp h
  | t :: ts, _, h => by
    obtain ⟨v, r, rfl, h1, h2⟩ := reps_cons.mp h
    exact ⟨v, r, rfl, h1, reps_ws h2⟩
theorem sg_tp {k n : Nat} {FGs : List W → Env → Sto → R Env} (hc : X.calm = true) (hK : X.K = Γ.K) (h : SGts Γ X sl es FGs) (hn : es.length = n) (hs : nosX es = true) :
    SGt Γ X sl (.Tuple es k pos) fun w ρ μ => match view w μ with
    | some (.tup xs) => if xs.length = n then FGs (xs.map .t) ρ μ else .bad
    | _ => .bad := fun w ρ μ => by
  obtain ⟨e1, e2⟩ := each_of (env := X.env) hs
  cases q : view w μ with
  | none => exact ⟨fun _ _ _ _ _ _ _ _ _ ⟨_, _, _, _, _, h⟩ => by simp only [q, Out] at h⟩
  | some t =>
    cases t with
    | tup xs =>
      refine PG.imp (pg_tup hc (h (xs.map .t) ρ μ) (e1.trans hn) e2) fun v σ H Q ⟨Z, ad, s, l, r, h⟩ => ?_
      simp only [q] at h
      obtain ⟨h1, h2⟩ := out_if h
      obtain ⟨a, vs, rfl, hv, hr⟩ := vu_tup (view_vu s r q)
      exact ⟨a, vs, rfl, hK ▸ sqT_of hv, by rw [← hr.length]; exact h1, Z, ad, s, l, reps_ws hr, h2⟩
    | _ => exact ⟨fun _ _ _ _ _ _ _ _ _ ⟨_, _, _, _, _, h⟩ => by simp only [q, Out] at h⟩
/-! ### stores into cells -/
def rSetA : TSet := fun o i v H Q => rSetL o i v H Q ∨ rSetD o i v H Q
theorem set_any (hu : X.A.units + 1 < cLine) : PSet X rSetA := by
  intro pins s σ H o i v ov iv u Q I ro ri rv h
  rcases h with h | h
  · exact set_list pins s σ H o i v ov iv u Q I ro ri rv h
  · exact set_dict hu pins s σ H o i v ov iv u Q I ro ri rv h
theorem cell_of {w : W} {n : Nat} {c : Cell} (h : cellOf w μ = some (n, c)) : w = .loc n ∧ ∃ e, μ[n]? = some e ∧ e.c = c := by
  cases w with
  | t _ => cases h
  | loc m =>
    have h : (match μ[m]? with | some e => some (m, e.c) | none => none) = some (n, c) := h
    cases q : μ[m]? with
    | none => rw [q] at h; cases h
    | some e => rw [q] at h; cases h; exact ⟨rfl, e, q, rfl⟩
theorem reps_set {S : Hp} : ∀ {ts : List T} {vs : List V} {j : Nat} {t : T} {v : V}, Reps Γ Z S ts vs → Rep Γ Z S t v → Reps Γ Z S (ts.set j t) (vs.set j v)
  | [], _, _, _, _, h, _ => by rw [reps_nil.mp h]; exact reps_nil.mpr rfl
  | _ :: _, _, 0, _, _, h, r => by
    obtain ⟨y, ys, rfl, h1, h2⟩ := reps_cons.mp h
    exact .cons r h2
  | _ :: _, _, j + 1, _, _, h, r => by
    obtain ⟨y, ys, rfl, h1, h2⟩ := reps_cons.mp h
    exact .cons h1 (reps_set h2 r)
theorem key_eq {S : Hp} {t : T} {k : DK} {v : V} (h : keyOf t = some k) (r : Vu Γ Z S t v) : v = kV k := by
  cases t <;> first | cases h | skip
  · exact vu_int r
  · exact vu_str r
theorem put_keys (kvs : List (Key × V)) (k : DK) : (kvs.any fun kv => decide (kv.1 = k)) = hasK (kvs.map (·.1)) k := by
  unfold hasK
  rw [List.any_map]
  rfl
theorem put_ok {S : Hp} {ks : List DK} {ts : List T} {kvs : List (Key × V)} {k : DK} {t : T} {v : V} (h1 : ks = kvs.map (·.1)) (h2 : Reps Γ Z S ts (kvs.map (·.2))) (r : Rep Γ Z S t v) :
    (dput ks ts k t).1 = (putK kvs k v).map (·.1) ∧ Reps Γ Z S (dput ks ts k t).2 ((putK kvs k v).map (·.2)) := by
  subst h1
  unfold dput putK
  rw [put_keys]
  by_cases q : hasK (kvs.map (·.1)) k = true
  · rw [if_pos q, if_pos q]
    clear q
    refine ⟨?_, ?_⟩
    · rw [List.map_map]
      apply List.map_congr_left
      intro kv _
      show kv.1 = (if kv.1 = k then (kv.1, v) else kv).1
      split <;> rfl
    · show Reps Γ Z S (List.zipWith _ _ ts) _
      induction kvs generalizing ts with
      | nil =>
        have : ts = [] := by
          have := h2.length
          cases ts with
          | nil => rfl
          | cons _ _ => cases this
        subst this
        exact reps_nil.mpr rfl
      | cons kv kvs ih =>
        cases ts with
        | nil => exact absurd (reps_nil.mp h2) (by simp)
        | cons u us =>
          obtain ⟨y, ys, e, h3, h4⟩ := reps_cons.mp h2
          cases e
          refine reps_cons.mpr ⟨_, _, rfl, ?_, ih h4⟩
          show Rep Γ Z S (if kv.1 = k then t else u) (if kv.1 = k then (kv.1, v) else kv).2
          split
          · exact r
          · exact h3
  · rw [if_neg q, if_neg q]
    refine ⟨by rw [List.map_append]; rfl, ?_⟩
    rw [List.map_append]
    clear q
    generalize kvs.map (·.2) = vs at h2 ⊢
    induction ts generalizing vs with
    | nil => rw [reps_nil.mp h2]; exact .cons r (reps_nil.mpr rfl)
    | cons u us ih =>
      obtain ⟨y, ys, rfl, h3, h4⟩ := reps_cons.mp h2
      exact .cons h3 (ih _ h4)
/-- a cell's store -/
theorem setC_ok {n : Nat} {c c' : Cell} {o : HO} {f : Unit → Sto → R γ} {Q : δ → Hp → Prop} (s : Ste Γ Z ad μ H) {a : Addr} {en : En} (h1 : ad[n]? = some a) (h2 : μ[n]? = some en) (h : Out Γ rp' Z ad H ((setC n c' μ).bind f) Q) :
    ∃ o1, H a = some o1 ∧ COb Γ Z (strip H) en.c o1 ∧ (∀ o, COb Γ Z (strip H) c' o → ∃ μ', Ste Γ Z ad μ' (upd H a o) ∧ Ext Z ad H Z ad (upd H a o) ∧ Out Γ rp' Z ad (upd H a o) (f () μ') Q) := by
  unfold setC at h
  rw [h2] at h
  simp only at h
  split at h
  · rename_i hl hf
    obtain ⟨o1, e1, e2⟩ := s.at_ h1 h2 hl hf
    refine ⟨o1, e1, e2, fun o ho => ?_⟩
    obtain ⟨s1, x1⟩ := s.write h1 h2 hl hf ho
    exact ⟨_, s1, x1, Out.ext (r := f () _) h x1⟩
  · exact False.elim h
theorem sub_of {o i : Expr} {env : PySem.Env} (h : plainX i = true) : ∀ v, assign (.Subscript o i pos) env v = (do
      let ov ← holding [v] (eval o env)
      let iv ← holding [v, ov] (eval i env)
      standAt pos
      holding [v, ov, iv] (setItem ov iv v)
      release [v, ov, iv] []) := by
  intro v
  cases i <;> first | rfl | cases h
theorem sg_sb {o i : Expr} (hu : X.A.units + 1 < cLine) (hpl : plainX i = true) {FO FI : Env → Sto → R W} (ho : ∀ ρ, SE Γ X ρ o (FO ρ)) (hi : ∀ ρ, SE Γ X ρ i (FI ρ)) :
    SGt Γ X [] (.Subscript o i pos) fun w ρ μ => (FO ρ μ).bind fun x μ => (FI ρ μ).bind fun y μ => match view y μ with
    | some t => (toT w μ).bind fun v μ => (setItemC x t v μ).bind fun _ μ => .ok ρ μ
    | none => .bad := fun w ρ μ => by
  refine PG.imp (pg_sub (ho ρ μ) (hi ρ ((FO ρ μ).st μ)) (set_any hu) (sub_of hpl)) fun v σ H Q ⟨Z, ad, s, l, r, h⟩ => step s l h fun x μ1 xv H1 Z1 ad1 e s1 l1 x1 r1 h1 => ?_
  rw [e, R.st_ok]
  refine step s1 l1 h1 fun y μ2 u H2 Z2 ad2 e2 s2 l2 x2 r2 h2 => ?_
  have r1' := x2.repW r1
  have r' := x2.repW (x1.repW r)
  split at h2
  · rename_i t e3
    have vw := view_vu s2 r2 e3
    obtain ⟨tv, μ3, Z3, s3, x3, r3, h3⟩ := out_toT s2 r' h2
    have r1'' := x3.repW r1'
    unfold setItemC at h3
    split at h3
    · rename_i n xs hce
      obtain ⟨rfl, en, hen, hec⟩ := cell_of hce
      obtain ⟨a, ha, rfl⟩ := r1''
      split at h3
      · rename_i k
        split at h3
        · rename_i j hj
          obtain ⟨o1, q1, q2, q3⟩ := setC_ok s3 (c := .lst xs) (o := .lst []) ha hen h3
          rw [hec] at q2
          obtain ⟨vs, rfl, q4⟩ := q2
          obtain ⟨μ', s4, x4, h4⟩ := q3 (.lst (vs.set j v)) ⟨_, rfl, reps_set q4 r3⟩
          exact .inl ⟨a, vs, k, j, rfl, vu_int vw, q1, by rw [← q4.length]; exact hj, h4.now s4 ⟨(l2.ext x3).ext x4, rfl, fun _ _ => rfl⟩⟩
        · exact False.elim h3
      · exact False.elim h3
    · rename_i n ks vs hce
      obtain ⟨rfl, en, hen, hec⟩ := cell_of hce
      obtain ⟨a, ha, rfl⟩ := r1''
      split at h3
      · rename_i k hk
        by_cases hlen : ks.length < sizeLine
        · rw [if_pos hlen] at h3
          obtain ⟨o1, q1, q2, q3⟩ := setC_ok s3 (c := .lst []) (o := .lst []) ha hen h3
          rw [hec] at q2
          obtain ⟨vs', ⟨kvs, rfl, q5, rfl⟩, q4⟩ := q2
          obtain ⟨p1, p2⟩ := put_ok (k := k) q5 q4 r3
          obtain ⟨μ', s4, x4, h4⟩ := q3 (.dK (putK kvs k v)) ⟨_, ⟨_, rfl, p1, rfl⟩, p2⟩
          refine .inr ⟨a, _, rfl, .inl ⟨kvs, k, q1, key_eq hk vw, ?_, rfl⟩, h4.now s4 ⟨(l2.ext x3).ext x4, rfl, fun _ _ => rfl⟩⟩
          rw [q5, List.length_map] at hlen
          exact hlen
        · rw [if_neg hlen] at h3; exact False.elim h3
      · exact False.elim h3
    · exact False.elim h3
  · exact False.elim h2
end
end Sy
end

section
set_option Elab.async false
set_option linter.all false
set_option maxRecDepth 100000
/-! SyN: comprehensions of one clause. -/
namespace Sy
open PySem L2 PyProof.Rows
section
variable {Γ : Tx} {X : Cx} {α β γ δ : Type} {rp : Rp α β} {rp' : Rp γ δ} {Z Z1 : Addr → Prop} {ad ad1 : List Addr} {H H1 : Hp} {ρ : Env} {μ : Sto} {σ σ2 : L2.St} {vs sl : List Nat}
theorem Out.step {r : R α} {f : α → Sto → R γ} {Q : δ → Hp → Prop} {K : β → Hp → Prop} (h : Out Γ rp' Z ad H (r.bind f) Q)
    (k : ∀ a μ1 b H1 Z1 ad1, r = .ok a μ1 → Ste Γ Z1 ad1 μ1 H1 → Ext Z ad H Z1 ad1 H1 → rp Z1 ad1 H1 a b → Out Γ rp' Z1 ad1 H1 (f a μ1) Q → K b H1) : Out Γ rp Z ad H r K := by
  cases r with
  | ok a μ' => exact fun b H' Z' ad' s' x r => k a μ' b H' Z' ad' rfl s' x r (Out.ext (Γ := Γ) (r := f a μ') h x)
  | exc _ _ => exact h
  | bad => exact h
theorem Out.stepB {Z0 : Addr → Prop} {ad0 : List Addr} {H0 : Hp} {r : R α} {f : α → Sto → R γ} {Q : δ → Hp → Prop} {K : β → Hp → Prop} (h : Out Γ rp' Z0 ad0 H0 (r.bind f) Q)
    (k : ∀ a μ1 b H1 Z1 ad1, r = .ok a μ1 → Ste Γ Z1 ad1 μ1 H1 → Ext Z ad H Z1 ad1 H1 → rp Z1 ad1 H1 a b → Out Γ rp' Z0 ad0 H0 (f a μ1) Q → K b H1) : Out Γ rp Z ad H r K := by
  cases r with
  | ok a μ' => exact fun b H' Z' ad' s' x r => k a μ' b H' Z' ad' rfl s' x r h
  | exc _ _ => exact h
  | bad => exact h
theorem stepB {Z0 : Addr → Prop} {ad0 : List Addr} {H0 : Hp} {r : R α} {f : α → Sto → R γ} {Q : δ → Hp → Prop} {K : β → Hp → Prop} (s : Ste Γ Z ad μ H) (l : Slo Γ Z ad ρ σ H) (h : Out Γ rp' Z0 ad0 H0 (r.bind f) Q)
    (k : ∀ a μ1 b H1 Z1 ad1, r = .ok a μ1 → Ste Γ Z1 ad1 μ1 H1 → Slo Γ Z1 ad1 ρ σ H1 → Ext Z ad H Z1 ad1 H1 → rp Z1 ad1 H1 a b → Out Γ rp' Z0 ad0 H0 (f a μ1) Q → K b H1) : tS Γ ρ μ rp r σ H K :=
  ⟨Z, ad, s, l, Out.stepB h fun a μ1 b H1 Z1 ad1 e s1 x1 => k a μ1 b H1 Z1 ad1 e s1 (l.ext x1) x1⟩
theorem toT_B {Z0 : Addr → Prop} {ad0 : List Addr} {H0 : Hp} {w : W} {v : V} {f : T → Sto → R γ} {Q : δ → Hp → Prop} (s : Ste Γ Z ad μ H) (r : RepW Γ Z ad (strip H) w v) (h : Out Γ rp' Z0 ad0 H0 ((toT w μ).bind f) Q) :
    ∃ t μ' Z', Ste Γ Z' ad μ' H ∧ Ext Z ad H Z' ad H ∧ Rep Γ Z' (strip H) t v ∧ Out Γ rp' Z0 ad0 H0 (f t μ') Q := by
  cases e : toT w μ with
  | ok ts μ' =>
    rw [e] at h
    obtain ⟨Z', s', x, r'⟩ := toT_ok s r e
    exact ⟨ts, μ', Z', s', x, r', h⟩
  | exc _ _ => rw [e] at h; exact False.elim h
  | bad => rw [e] at h; exact False.elim h
theorem Out.isOk {r : R α} {f : α → Sto → R γ} {Q : δ → Hp → Prop} (h : Out Γ rp' Z ad H (r.bind f) Q) : ∃ a μ', r = .ok a μ' := by
  cases r with
  | ok a μ' => exact ⟨a, μ', rfl⟩
  | exc _ _ => exact False.elim h
  | bad => exact False.elim h
theorem wipe_get : ∀ (vs : List Nat) (σ : L2.St) (i : Nat), (wipe σ vs)[i]? = if i ∈ vs ∧ i < σ.length then some none else σ[i]?
  | [], σ, i => by simp [wipe]
  | v :: vs, σ, i => by
    show ((wipe σ vs).set v none)[i]? = _
    by_cases h : v = i
    · subst h
      by_cases hl : v < σ.length
      · rw [List.getElem?_set_self (by rw [wipe_length]; exact hl), if_pos ⟨List.mem_cons_self, hl⟩]
      · rw [if_neg (fun z => hl z.2), List.getElem?_eq_none (by rw [List.length_set, wipe_length]; omega), List.getElem?_eq_none (by omega)]
    · rw [List.getElem?_set_ne h, wipe_get vs σ i]
      have : i ∈ v :: vs ↔ i ∈ vs := by simp [List.mem_cons, Ne.symm h, eq_comm, h]
      simp only [this]
theorem wipe_eq (hs : ∀ i ∈ sl, i ∈ vs) (hl : σ2.length = (wipe σ vs).length) (ha : ∀ i, i ∉ sl → σ2[i]? = (wipe σ vs)[i]?) : wipe σ2 vs = wipe σ vs := by
  apply List.ext_getElem?
  intro i
  rw [wipe_get, wipe_get]
  rw [wipe_length] at hl
  by_cases h : i ∈ vs
  · by_cases q : i < σ.length
    · rw [if_pos ⟨h, by rw [hl]; exact q⟩, if_pos ⟨h, q⟩]
    · rw [if_neg (fun z => q (by rw [← hl]; exact z.2)), if_neg (fun z => q z.2), List.getElem?_eq_none (by omega), List.getElem?_eq_none (by omega)]
  · rw [if_neg (fun z => h z.1), if_neg (fun z => h z.1), ha i (fun z => h (hs i z)), wipe_get, if_neg (fun z => h z.1)]
theorem unset_wipe (l : Slo Γ Z ad ρ σ H) : ∀ vs : List Nat, Slo Γ Z ad (unset ρ vs) (wipe σ vs) H
  | [] => l
  | v :: vs => by
    have ih := unset_wipe l vs
    refine ⟨by show ((unset ρ vs).set v none).length = ((wipe σ vs).set v none).length; rw [List.length_set, List.length_set]; exact ih.len, fun i w h => ?_⟩
    have h : ((unset ρ vs).set v none)[i]? = some (some w) := h
    by_cases hv : v = i
    · subst hv
      by_cases hl : v < (unset ρ vs).length
      · rw [List.getElem?_set_self hl] at h; cases h
      · rw [List.getElem?_eq_none (by rw [List.length_set]; omega)] at h; cases h
    · rw [List.getElem?_set_ne hv] at h
      obtain ⟨v', h1, h2⟩ := ih.sl i w h
      exact ⟨v', by show ((wipe σ vs).set v none)[i]? = _; rw [List.getElem?_set_ne hv]; exact h1, h2⟩
def catO (o : Option T) (vs : List T) : List T := match o with
  | some v => v :: vs
  | none => vs
theorem R.bind_assoc {r : R α} {f : α → Sto → R β} {g : β → Sto → R γ} : (r.bind f).bind g = r.bind fun a μ => (f a μ).bind g := by
  cases r <;> rfl
theorem gath_step {body : T → Sto → R (Option T)} {x : T} {xs : List T} {K : List T → Sto → R γ} : ((gath body (x :: xs) μ).bind K) = (body x μ).bind fun o μ => (gath body xs μ).bind fun vs μ => K (catO o vs) μ := by
  show ((body x μ).bind _).bind K = _
  rw [R.bind_assoc]
  congr 1
  funext o μ
  rw [R.bind_assoc]
  congr 1
def gEx (Γ : Tx) (sl : List Nat) (FG : W → Env → Sto → R Env) : TG := fun v σ H Q => ∃ w ρ μ, TGo Γ sl w ρ μ (FG w ρ μ) v σ H Q
def tEx {α β : Type} (Γ : Tx) (rp : Rp α β) (F : Env → Sto → R α) : L2.St → Hp → (β → Hp → Prop) → Prop := fun σ H Q => ∃ ρ μ, tS Γ ρ μ rp (F ρ μ) σ H Q
variable {elt tg iter kx vx : Expr} {ifs : List Expr} {scope : Scope} {own : List (Str × Nat)} {pos : Pos} {FG : W → Env → Sto → R Env} {FT : Env → Sto → R Bool} {FE FV : Env → Sto → R W} {FI : Sto → R (List T)}
theorem pg_ex (h : SGt Γ X sl tg FG) : PG X tg (gEx Γ sl FG) := ⟨fun pins s σ H v u Q I r ⟨w, ρ, μ, q⟩ => (h w ρ μ).run pins s σ H v u Q I r q⟩
theorem pe_ex (h : ∀ ρ, SE Γ X ρ elt (FE ρ)) : PE X elt (tEx Γ (rpW Γ) FE) := ⟨fun pins s σ H Q I ⟨ρ, μ, q⟩ => (h ρ μ).run pins s σ H Q I q⟩
def STs (Γ : Tx) (X : Cx) (ρ : Env) (ifs : List Expr) (F : Sto → R Bool) : Prop := ∀ μ, PTs X ifs (tS Γ ρ μ rpB (F μ))
theorem PTs.imp {t t' : TT} (h : PTs X ifs t) (q : ∀ σ H Q, t' σ H Q → t σ H Q) : PTs X ifs t' := ⟨fun pins s σ H Q I w => h.run pins s σ H Q I (q σ H Q w)⟩
theorem sts_nil : STs Γ X ρ [] fun μ => .ok true μ := fun μ => PTs.imp pts_nil fun σ H Q ⟨Z, ad, s, l, h⟩ => h.now s rfl
theorem sts_one {c : Expr} {FB : Sto → R Bool} (h : ST Γ X ρ c FB) : STs Γ X ρ [c] fun μ => (FB μ).bind fun b μ => match b with
    | true => .ok true μ
    | false => .ok false μ := fun μ => PTs.imp (pts_one (h μ)) fun σ H Q ⟨Z, ad, s, l, h⟩ => step s l h fun x μ1 v H1 Z1 ad1 e s1 l1 x1 r1 h1 => by
  have r1 : x = v := r1
  subst r1
  cases x <;> exact h1.now s1 rfl
theorem pts_ex (h : ∀ ρ, STs Γ X ρ ifs (FT ρ)) : PTs X ifs (tEx Γ rpB FT) := ⟨fun pins s σ H Q I ⟨ρ, μ, q⟩ => (h ρ μ).run pins s σ H Q I q⟩
/-- the work of a list comprehension -/
theorem lc_imp {k : Bool} {Q : VK} (hs : ∀ i ∈ sl, i ∈ vs)
    (h : tS Γ ρ μ (rpW Γ) ((FI μ).bind fun xs μ => (gath (cbody vs FG FT (frE FE) ρ) xs μ).bind fun ws μ => if ws.length ≤ sizeLine then fin k (.c (.lst ws)) μ else .bad) σ H Q) :
    tLc (tS Γ ρ μ (rpI Γ) (FI μ)) (gEx Γ sl FG) (tEx Γ rpB FT) (tEx Γ (rpW Γ) FE) vs σ H Q := by
  obtain ⟨Z, ad, s, l, h⟩ := h
  refine step s l h fun xs μ1 J H1 Z1 ad1 e s1 l1 x1 r1 h1 => ?_
  intro D hD
  obtain ⟨s1', x1'⟩ := s1.waste (o := .lst []) hD trivial
  have nD1 : D ∉ ad1 := fun z => s1.dom z hD
  have nZ1 : ¬ Z1 D := fun z => s1.zd D z hD
  refine ⟨fun i m H => m = xs.length - i ∧ i ≤ xs.length ∧ ∃ Z ad μ dn acc, Ste Γ Z ad μ H ∧ Ext Z1 ad1 H1 Z ad H ∧ H D = some (.lst acc) ∧ Reps Γ Z (strip H) dn acc ∧ D ∉ ad ∧ ¬ Z D ∧
      Out Γ (rpW Γ) Z1 ad1 H1 ((gath (cbody vs FG FT (frE FE) ρ) (xs.drop i) μ).bind fun ws μ => if (dn ++ ws).length ≤ sizeLine then fin k (.c (.lst (dn ++ ws))) μ else .bad) Q,
    ⟨_, rfl, Nat.zero_le _, Z1, ad1, μ1, [], [], s1', x1', upd_same, reps_nil.mpr rfl, nD1, nZ1, by simpa using h1⟩, fun i m H ⟨hm, hi, Z, ad, μ, dn, acc, s, x, hD', hr, nD, nZ, h⟩ => ?_⟩
  obtain ⟨w1, w2, w3⟩ := r1 Z ad μ H s x.wk
  by_cases hlt : i < xs.length
  · refine .inr ⟨w1 i hlt, fun H => (m - 1) = xs.length - (i + 1) ∧ i + 1 ≤ xs.length ∧ ∃ Z ad μ dn acc, Ste Γ Z ad μ H ∧ Ext Z1 ad1 H1 Z ad H ∧ H D = some (.lst acc) ∧ Reps Γ Z (strip H) dn acc ∧ D ∉ ad ∧ ¬ Z D ∧
      Out Γ (rpW Γ) Z1 ad1 H1 ((gath (cbody vs FG FT (frE FE) ρ) (xs.drop (i + 1)) μ).bind fun ws μ => if (dn ++ ws).length ≤ sizeLine then fin k (.c (.lst (dn ++ ws))) μ else .bad) Q,
      fun H' q => ⟨m - 1, by omega, q⟩, fun y H' hy => ?_⟩
    obtain ⟨Z2, s2, x2, r2⟩ := w3 i xs[i] y H' (List.getElem?_eq_getElem hlt) hy
    have e1 : xs.drop i = xs[i] :: xs.drop (i + 1) := List.drop_eq_getElem_cons hlt
    rw [e1, gath_step] at h
    unfold cbody at h
    rw [R.bind_assoc] at h
    refine ⟨.t xs[i], unset ρ vs, μ, Z2, ad, s2, unset_wipe ((l1.ext x).ext x2) vs, r2, Out.stepB h fun ρ' μ3 σ3 H3 Z3 ad3 e3 s3 x3 ⟨l3, n3, g3⟩ h3 => ⟨wipe_eq hs n3 g3, ?_⟩⟩
    rw [R.bind_assoc] at h3
    refine ⟨ρ', μ3, stepB s3 l3 h3 fun b μ4 b' H4 Z4 ad4 e4 s4 l4 x4 r4 h4 => ?_⟩
    have r4 : b = b' := r4
    subst r4
    have k4 := ((x2.trans x3).trans x4).keep hD' nD nZ
    cases b with
    | false =>
      rw [if_neg (by decide)]
      exact ⟨by omega, hlt, Z4, ad4, μ4, dn, acc, s4, x.trans ((x2.trans x3).trans x4), k4.1, ((x2.trans x3).trans x4).reps hr, k4.2.1, k4.2.2, h4⟩
    | true =>
      rw [if_pos rfl]
      rw [R.bind_assoc] at h4
      unfold frE at h4
      rw [R.bind_assoc] at h4
      refine ⟨ρ', μ4, stepB s4 l4 h4 fun w μ5 y5 H5 Z5 ad5 e5 s5 l5 x5 r5 h5 => ?_⟩
      obtain ⟨t, μ6, Z6, s6, x6, r6, h6⟩ := toT_B s5 r5 h5
      have xx := ((x2.trans x3).trans x4).trans (x5.trans x6)
      have k6 := xx.keep hD' nD nZ
      have hr6 := xx.reps hr
      have h6 : Out Γ (rpW Γ) Z1 ad1 H1 ((gath (cbody vs FG FT (frE FE) ρ) (xs.drop (i + 1)) μ6).bind fun ws μ => if (dn ++ t :: ws).length ≤ sizeLine then fin k (.c (.lst (dn ++ t :: ws))) μ else .bad) Q := h6
      have small : acc.length < sizeLine := by
        obtain ⟨ws, μ7, e7⟩ := h6.isOk
        rw [e7] at h6
        obtain ⟨h7, _⟩ := out_if (p := (dn ++ t :: ws).length ≤ sizeLine) (r := fin k (.c (.lst (dn ++ t :: ws))) μ7) h6
        rw [List.length_append, List.length_cons] at h7
        have := hr6.length
        omega
      have n6 : noFrz (.lst (acc ++ [y5])) := trivial
      have s7 := s6.other n6 k6.2.1 k6.2.2
      have x7 := (x.trans xx).other hD k6.2.1 k6.2.2 n6
      have st : ∀ b, Z6 b → strip (upd H5 D (.lst (acc ++ [y5]))) b = strip H5 b := fun b hb => strip_ne n6 (fun q => k6.2.2 (q ▸ hb))
      refine ⟨acc, k6.1, small, by omega, hlt, Z6, ad5, μ6, dn ++ [t], acc ++ [y5], s7, x7, upd_same, ?_, k6.2.1, k6.2.2, ?_⟩
      · exact Reps.mono (fun _ z => z) st _ _ (hr6.append (.cons r6 (reps_nil.mpr rfl)))
      · have e8 : (fun (ws : List T) (μ : Sto) => if (dn ++ t :: ws).length ≤ sizeLine then fin k (.c (.lst (dn ++ t :: ws))) μ else R.bad) = fun ws μ => if ((dn ++ [t]) ++ ws).length ≤ sizeLine then fin k (.c (.lst ((dn ++ [t]) ++ ws))) μ else R.bad := by
          funext ws μ
          rw [List.append_assoc]
          rfl
        rw [e8] at h6
        exact h6
  · have : i = xs.length := by omega
    subst this
    refine .inl ⟨w2, ?_⟩
    rw [List.drop_length] at h
    have h : Out Γ (rpW Γ) Z1 ad1 H1 (if (dn ++ []).length ≤ sizeLine then fin k (.c (.lst (dn ++ []))) μ else .bad) Q := h
    rw [List.append_nil] at h
    obtain ⟨_, h⟩ := out_if h
    exact fin_old (c := .lst dn) s x hD hD' ⟨acc, rfl, hr⟩ nD nZ (Out.giv h)
theorem putAll_append : ∀ (ps qs : List T) (ks : List DK) (vs : List T), putAll (ps ++ qs) ks vs = match putAll ps ks vs with | some (a, b) => putAll qs a b | none => none
  | [], qs, ks, vs => rfl
  | p :: ps, qs, ks, vs => by
    show putAll (p :: (ps ++ qs)) ks vs = match putAll (p :: ps) ks vs with | some (a, b) => putAll qs a b | none => none
    simp only [putAll]
    cases pairOf p with
    | none => rfl
    | some kv => exact putAll_append ps qs _ _
/-- the work of a dict comprehension -/
theorem dc_imp {k : Bool} {Q : VK} (hs : ∀ i ∈ sl, i ∈ vs)
    (h : tS Γ ρ μ (rpW Γ) ((FI μ).bind fun xs μ => (gath (cbody vs FG FT (frP FE FV) ρ) xs μ).bind fun ps μ => KD k [] ps μ) σ H Q) :
    tDc (tS Γ ρ μ (rpI Γ) (FI μ)) (gEx Γ sl FG) (tEx Γ rpB FT) (tEx Γ (rpW Γ) FE) (tEx Γ (rpW Γ) FV) vs σ H Q := by
  obtain ⟨Z, ad, s, l, h⟩ := h
  refine step s l h fun xs μ1 J H1 Z1 ad1 e s1 l1 x1 r1 h1 => ?_
  intro D hD
  obtain ⟨s1', x1'⟩ := s1.waste (o := .dK []) hD trivial
  have nD1 : D ∉ ad1 := fun z => s1.dom z hD
  have nZ1 : ¬ Z1 D := fun z => s1.zd D z hD
  let P : Nat → Hp → Prop := fun i H => i ≤ xs.length ∧ ∃ Z ad μ dn ks ts kvs, Ste Γ Z ad μ H ∧ Ext Z1 ad1 H1 Z ad H ∧ H D = some (.dK kvs) ∧ putAll dn [] [] = some (ks, ts) ∧ ks = kvs.map (·.1) ∧ Reps Γ Z (strip H) ts (kvs.map (·.2)) ∧ kvs.length ≤ dn.length ∧ D ∉ ad ∧ ¬ Z D ∧
      Out Γ (rpW Γ) Z1 ad1 H1 ((gath (cbody vs FG FT (frP FE FV) ρ) (xs.drop i) μ).bind fun ps μ => match putAll (dn ++ ps) [] [] with
        | some (ks, vs) => if (dn ++ ps).length ≤ sizeLine then fin k (.c (.dct ks vs)) μ else .bad
        | none => .bad) Q
  refine ⟨fun i m H => m = xs.length - i ∧ P i H,
    ⟨_, rfl, Nat.zero_le _, Z1, ad1, μ1, [], [], [], [], s1', x1', upd_same, rfl, rfl, reps_nil.mpr rfl, Nat.le_refl _, nD1, nZ1, by rw [List.drop_zero]; exact h1⟩, fun i m H ⟨hm, hi, Z, ad, μ, dn, ks, ts, kvs, s, x, hD', hp, hk, hr, hln, nD, nZ, h⟩ => ?_⟩
  obtain ⟨w1, w2, w3⟩ := r1 Z ad μ H s x.wk
  by_cases hlt : i < xs.length
  · refine .inr ⟨w1 i hlt, P (i + 1), fun H' q => ⟨m - 1, by omega, by omega, q⟩, fun y H' hy => ?_⟩
    obtain ⟨Z2, s2, x2, r2⟩ := w3 i xs[i] y H' (List.getElem?_eq_getElem hlt) hy
    have e1 : xs.drop i = xs[i] :: xs.drop (i + 1) := List.drop_eq_getElem_cons hlt
    rw [e1, gath_step] at h
    unfold cbody at h
    rw [R.bind_assoc] at h
    refine ⟨.t xs[i], unset ρ vs, μ, Z2, ad, s2, unset_wipe ((l1.ext x).ext x2) vs, r2, Out.stepB h fun ρ' μ3 σ3 H3 Z3 ad3 e3 s3 x3 ⟨l3, n3, g3⟩ h3 => ⟨wipe_eq hs n3 g3, ?_⟩⟩
    rw [R.bind_assoc] at h3
    refine ⟨ρ', μ3, stepB s3 l3 h3 fun b μ4 b' H4 Z4 ad4 e4 s4 l4 x4 r4 h4 => ?_⟩
    have r4 : b = b' := r4
    subst r4
    have k4 := ((x2.trans x3).trans x4).keep hD' nD nZ
    cases b with
    | false =>
      rw [if_neg (by decide)]
      exact ⟨hlt, Z4, ad4, μ4, dn, ks, ts, kvs, s4, x.trans ((x2.trans x3).trans x4), k4.1, hp, hk, ((x2.trans x3).trans x4).reps hr, hln, k4.2.1, k4.2.2, h4⟩
    | true =>
      rw [if_pos rfl]
      rw [R.bind_assoc] at h4
      unfold frP at h4
      rw [R.bind_assoc] at h4
      refine ⟨ρ', μ4, stepB s4 l4 h4 fun w μ5 y5 H5 Z5 ad5 e5 s5 l5 x5 r5 h5 => ?_⟩
      rw [R.bind_assoc] at h5
      obtain ⟨t, μ6, Z6, s6, x6, r6, h6⟩ := toT_B s5 r5 h5
      rw [R.bind_assoc] at h6
      refine ⟨ρ', μ6, stepB s6 (l5.ext x6) h6 fun w' μ7 y7 H7 Z7 ad7 e7 s7 l7 x7 r7 h7 => ?_⟩
      rw [R.bind_assoc] at h7
      obtain ⟨u, μ8, Z8, s8, x8, r8, h8⟩ := toT_B s7 r7 h7
      have xx := ((x2.trans x3).trans x4).trans ((x5.trans x6).trans (x7.trans x8))
      have k8 := xx.keep hD' nD nZ
      have hr8 := xx.reps hr
      have r6' := (x7.trans x8).rep r6
      have h8 : Out Γ (rpW Γ) Z1 ad1 H1 ((gath (cbody vs FG FT (frP FE FV) ρ) (xs.drop (i + 1)) μ8).bind fun ps μ => match putAll (dn ++ T.tup [t, u] :: ps) [] [] with
        | some (ks, vs) => if (dn ++ T.tup [t, u] :: ps).length ≤ sizeLine then fin k (.c (.dct ks vs)) μ else .bad
        | none => .bad) Q := h8
      have key : ∃ kk, keyOf t = some kk ∧ dn.length < sizeLine := by
        obtain ⟨ws, μ7, e7⟩ := h8.isOk
        rw [e7] at h8
        have h9 : Out Γ (rpW Γ) Z1 ad1 H1 (match putAll (dn ++ T.tup [t, u] :: ws) [] [] with
          | some (ks, vs) => if (dn ++ T.tup [t, u] :: ws).length ≤ sizeLine then fin k (.c (.dct ks vs)) μ7 else .bad
          | none => .bad) Q := h8
        rw [putAll_append, hp] at h9
        have h9 : Out Γ (rpW Γ) Z1 ad1 H1 (match putAll (T.tup [t, u] :: ws) ks ts with
          | some (ks, vs) => if (dn ++ T.tup [t, u] :: ws).length ≤ sizeLine then fin k (.c (.dct ks vs)) μ7 else .bad
          | none => .bad) Q := h9
        simp only [putAll, pairOf] at h9
        cases hq : keyOf t with
        | none => simp only [hq, Out] at h9
        | some kk =>
          refine ⟨kk, rfl, ?_⟩
          simp only [hq] at h9
          split at h9
          · obtain ⟨h10, _⟩ := out_if h9
            rw [List.length_append, List.length_cons] at h10
            omega
          · exact False.elim h9
      obtain ⟨kk, hkk, hsm⟩ := key
      have n6 : noFrz (.dK (putK kvs kk y7)) := trivial
      have s9 := s8.other n6 k8.2.1 k8.2.2
      have x9 := (x.trans xx).other hD k8.2.1 k8.2.2 n6
      have st : ∀ b, Z8 b → strip (upd H7 D (.dK (putK kvs kk y7))) b = strip H7 b := fun b hb => strip_ne n6 (fun q => k8.2.2 (q ▸ hb))
      obtain ⟨p1, p2⟩ := put_ok (k := kk) hk hr8 r8
      refine ⟨kvs, kk, key_eq hkk r6'.vu, k8.1, by omega, hlt, Z8, ad7, μ8, dn ++ [T.tup [t, u]], (dput ks ts kk u).1, (dput ks ts kk u).2, putK kvs kk y7, s9, x9, upd_same, ?_, p1, Reps.mono (fun _ z => z) st _ _ p2, ?_, k8.2.1, k8.2.2, ?_⟩
      · rw [putAll_append, hp]
        show putAll [T.tup [t, u]] ks ts = _
        simp only [putAll, pairOf, hkk]
      · have := length_putK kvs kk y7
        rw [List.length_append]
        show _ ≤ dn.length + 1
        omega
      · have e8 : (fun (ps : List T) (μ : Sto) => (match putAll (dn ++ T.tup [t, u] :: ps) [] [] with
          | some (ks, vs) => if (dn ++ T.tup [t, u] :: ps).length ≤ sizeLine then fin k (.c (.dct ks vs)) μ else R.bad
          | none => R.bad)) = fun ps μ => (match putAll ((dn ++ [T.tup [t, u]]) ++ ps) [] [] with
          | some (ks, vs) => if ((dn ++ [T.tup [t, u]]) ++ ps).length ≤ sizeLine then fin k (.c (.dct ks vs)) μ else R.bad
          | none => R.bad) := by
          funext ps μ
          rw [List.append_assoc]
          rfl
        rw [e8] at h8
        exact h8
  · have : i = xs.length := by omega
    subst this
    refine .inl ⟨w2, ?_⟩
    rw [List.drop_length] at h
    have h : Out Γ (rpW Γ) Z1 ad1 H1 (match putAll (dn ++ []) [] [] with
        | some (ks, vs) => if (dn ++ []).length ≤ sizeLine then fin k (.c (.dct ks vs)) μ else .bad
        | none => .bad) Q := h
    rw [List.append_nil, hp] at h
    obtain ⟨_, h⟩ := out_if h
    exact fin_old s x hD hD' (c := .dct ks ts) ⟨_, ⟨kvs, rfl, hk, rfl⟩, hr⟩ nD nZ (Out.giv h)
end
end Sy
end

section
set_option Elab.async false
set_option linter.all false
set_option maxRecDepth 100000
/-! SyO: a dict comprehension of two clauses (after the model of the list comprehension of two clauses). -/
namespace L2
open PySem PySem.Spec PyProof.Rows
theorem dturn2_out (kx vx t0 i0 t1 i1 : Expr) (ifs0 ifs1 : List Expr) (scope : Scope) (pos : Pos) (it : Value) (D : Addr) (env : Env) :
    compTurn (.DictComp kx vx [⟨t0, i0, ifs0, 0⟩, ⟨t1, i1, ifs1, 0⟩] scope pos) 0 it (.ref D) env = (do
      standAt i0.pos
      match ← pyNext it with
      | none => pure (.done .next)
      | some v =>
        letOwnedTupleGo t0 it v
        assign t0 env v
        let mut ok := true
        for c in ifs0 do
          if ok then ok ← isTrue c env (eval c env)
        if ok then
          let x ← eval i1 env
          standAt i1.pos
          let x ← foldedSetIterable i1 env x
          let _ ← runOwn (.compStart (.DictComp kx vx [⟨t0, i0, ifs0, 0⟩, ⟨t1, i1, ifs1, 0⟩] scope pos) 1 (← holding [x] (pyIter x)) (.ref D) env) env
        again (.compLoop (.DictComp kx vx [⟨t0, i0, ifs0, 0⟩, ⟨t1, i1, ifs1, 0⟩] scope pos) 0 it (.ref D) env)) := by rfl
theorem dturn2_in (kx vx t0 i0 t1 i1 : Expr) (ifs0 ifs1 : List Expr) (scope : Scope) (pos : Pos) (it : Value) (D : Addr) (env : Env) :
    compTurn (.DictComp kx vx [⟨t0, i0, ifs0, 0⟩, ⟨t1, i1, ifs1, 0⟩] scope pos) 1 it (.ref D) env = (do
      standAt i1.pos
      match ← pyNext it with
      | none => pure (.done .next)
      | some v =>
        letOwnedTupleGo t1 it v
        assign t1 env v
        let mut ok := true
        for c in ifs1 do
          if ok then ok ← isTrue c env (eval c env)
        if ok then
          (do
            let kv ← eval kx env
            let vv ← holding [kv] (eval vx env)
            standAt { kx.pos with endLine := vx.pos.endLine, endCol := vx.pos.endCol }
            holding [kv, vv] (dictSet D kv vv))
        again (.compLoop (.DictComp kx vx [⟨t0, i0, ifs0, 0⟩, ⟨t1, i1, ifs1, 0⟩] scope pos) 1 it (.ref D) env)) := by rfl

section
variable {prog : Program} {w : World} {A : Around} {R : Result → Shared → Prop} {s : Shared} {kx vx t0 i0 t1 i1 : Expr} {ifs0 ifs1 : List Expr} {scope : Scope} {pos : Pos} {it : Value} {D : Addr} {env : Env}
/-- the loop of the first clause -/
theorem dloop2_out (hs : ∀ x, foldedSetIterable i1 env x = pure x) (I : Nat → Shared → Prop)
    (turn : ∀ n s, I n s → wpAny (model prog w) A (pyNext it) (fun r s₁ => match r with
      | none => R (.ok .next) s₁
      | some v => wpAny (model prog w) A (letOwnedTupleGo t0 it v) (fun _ s₁' => wpAny (model prog w) A (assign t0 env v) (fun _ s₂ =>
          wpAny (model prog w) A (forIn ifs0 true fun c r => if r = true then do let ok ← isTrue c env (eval c env); pure (ForInStep.yield ok) else pure (ForInStep.yield r)) (fun ok s₃ =>
            if ok = true then wpAny (model prog w) A (eval i1 env) (fun x s₄ => wpAny (model prog w) A (pyIter x) (fun it1 s₅ =>
              codeAny (model prog w) A (.compStart (.DictComp kx vx [⟨t0, i0, ifs0, 0⟩, ⟨t1, i1, ifs1, 0⟩] scope pos) 1 it1 (.ref D) env) (fun r s' => match r with
                | .ok _ => ∃ m, m < n ∧ I m s'
                | .error _ => False) s₅) (notedBy (model prog w) A env fun e s' => R (.error e) s') s₄) (notedBy (model prog w) A env fun e s' => R (.error e) s') s₃
            else ∃ m, m < n ∧ I m s₃) (notedBy (model prog w) A env fun e s' => R (.error e) s') s₂) (notedBy (model prog w) A env fun e s' => R (.error e) s') s₁') (notedBy (model prog w) A env fun e s' => R (.error e) s') s₁) (notedBy (model prog w) A env fun e s' => R (.error e) s') s)
    (n : Nat) (h : I n s) :
    codeAny (model prog w) A (.compLoop (.DictComp kx vx [⟨t0, i0, ifs0, 0⟩, ⟨t1, i1, ifs1, 0⟩] scope pos) 0 it (.ref D) env) R s := by
  refine codeAny_loop rfl I (fun n s hI => ?_) n h
  show wpAny _ A ((compTurn (.DictComp kx vx [⟨t0, i0, ifs0, 0⟩, ⟨t1, i1, ifs1, 0⟩] scope pos) 0 it (.ref D) env).onRaise (fun x => do noteFrame x env; theTreesLotGoes x)) _ _ s
  refine wpAny_noted ?_
  rw [dturn2_out]
  refine wpAny_bind (wpAny_standAt (wpAny_bind (wpAny_mono (turn n s hI) (fun r s₁ h₁ => ?_) fun _ _ h' => h')))
  cases r with
  | none => exact wpAny_pure h₁
  | some v =>
    refine wpAny_bind (wpAny_mono h₁ (fun _ s₁' h₁' => ?_) fun _ _ h' => h')
    refine wpAny_bind (wpAny_mono h₁' (fun _ s₂ h₂ => wpAny_bind (wpAny_mono h₂ (fun ok s₃ h₃ => ?_) fun _ _ h' => h')) fun _ _ h' => h')
    cases ok with
    | false => exact wpAny_pure ⟨rfl, h₃⟩
    | true =>
      refine wpAny_bind (wpAny_mono h₃ (fun x s₄ h₄ => ?_) fun _ _ h' => h')
      refine wpAny_bind (wpAny_standAt (wpAny_bind (wpAny_of_eq (hs x) (wpAny_bind (wpAny_holding (wpAny_mono h₄ (fun it1 s₅ h₅ => ?_) fun _ _ h' => h'))))))
      refine wpAny_bind (wpAny_runOwn ?_)
      rw [Around.mark_none]
      refine codeAny_mono h₅ fun r s' hr => ?_
      cases r with
      | ok f =>
        first
          | exact wpAny_pure ⟨rfl, hr⟩
          | exact wpAny_bind (wpAny_pure (wpAny_pure ⟨rfl, hr⟩))
      | error e => exact hr.elim
/-- the loop of the second -/
theorem dloop2_in (I : Nat → Shared → Prop)
    (turn : ∀ n s, I n s → wpAny (model prog w) A (pyNext it) (fun r s₁ => match r with
      | none => R (.ok .next) s₁
      | some v => wpAny (model prog w) A (letOwnedTupleGo t1 it v) (fun _ s₁' => wpAny (model prog w) A (assign t1 env v) (fun _ s₂ =>
          wpAny (model prog w) A (forIn ifs1 true fun c r => if r = true then do let ok ← isTrue c env (eval c env); pure (ForInStep.yield ok) else pure (ForInStep.yield r)) (fun ok s₃ =>
            if ok = true then wpAny (model prog w) A (eval kx env) (fun kv s₄ => wpAny (model prog w) A (eval vx env) (fun vv s₅ =>
              wpAny (model prog w) A (dictSet D kv vv) (fun _ s₆ => ∃ m, m < n ∧ I m s₆) (notedBy (model prog w) A env fun e s' => R (.error e) s') s₅) (notedBy (model prog w) A env fun e s' => R (.error e) s') s₄) (notedBy (model prog w) A env fun e s' => R (.error e) s') s₃
            else ∃ m, m < n ∧ I m s₃) (notedBy (model prog w) A env fun e s' => R (.error e) s') s₂) (notedBy (model prog w) A env fun e s' => R (.error e) s') s₁') (notedBy (model prog w) A env fun e s' => R (.error e) s') s₁) (notedBy (model prog w) A env fun e s' => R (.error e) s') s)
    (n : Nat) (h : I n s) :
    codeAny (model prog w) A (.compLoop (.DictComp kx vx [⟨t0, i0, ifs0, 0⟩, ⟨t1, i1, ifs1, 0⟩] scope pos) 1 it (.ref D) env) R s := by
  refine codeAny_loop rfl I (fun n s hI => ?_) n h
  show wpAny _ A ((compTurn (.DictComp kx vx [⟨t0, i0, ifs0, 0⟩, ⟨t1, i1, ifs1, 0⟩] scope pos) 1 it (.ref D) env).onRaise (fun x => do noteFrame x env; theTreesLotGoes x)) _ _ s
  refine wpAny_noted ?_
  rw [dturn2_in]
  refine wpAny_bind (wpAny_standAt (wpAny_bind (wpAny_mono (turn n s hI) (fun r s₁ h₁ => ?_) fun _ _ h' => h')))
  cases r with
  | none => exact wpAny_pure h₁
  | some v =>
    refine wpAny_bind (wpAny_mono h₁ (fun _ s₁' h₁' => ?_) fun _ _ h' => h')
    refine wpAny_bind (wpAny_mono h₁' (fun _ s₂ h₂ => wpAny_bind (wpAny_mono h₂ (fun ok s₃ h₃ => ?_) fun _ _ h' => h')) fun _ _ h' => h')
    cases ok with
    | false => exact wpAny_pure ⟨rfl, h₃⟩
    | true =>
      exact wpAny_bind (wpAny_bind (wpAny_mono h₃ (fun kv s₄ h₄ => wpAny_bind (wpAny_holding (wpAny_mono h₄ (fun vv s₅ h₅ => wpAny_bind (wpAny_standAt (wpAny_holding (wpAny_mono h₅ (fun _ s₆ h₆ => wpAny_pure ⟨rfl, h₆⟩) fun _ _ h' => h')))) fun _ _ h' => h'))) fun _ _ h' => h'))
/-- the second clause's start -/
theorem dstart1_ok (h0 : codeAny (model prog w) A (.compLoop (.DictComp kx vx [⟨t0, i0, ifs0, 0⟩, ⟨t1, i1, ifs1, 0⟩] scope pos) 1 it (.ref D) env) R s)
    (h : wpAny (model prog w) A (pyIter it) (fun it' s' => codeAny (model prog w) A (.compLoop (.DictComp kx vx [⟨t0, i0, ifs0, 0⟩, ⟨t1, i1, ifs1, 0⟩] scope pos) 1 it' (.ref D) env) R s')
      (notedBy (model prog w) A env fun x s' => R (.error x) s') s) :
    codeAny (model prog w) A (.compStart (.DictComp kx vx [⟨t0, i0, ifs0, 0⟩, ⟨t1, i1, ifs1, 0⟩] scope pos) 1 it (.ref D) env) R s := by
  refine codeAny_of_tree ?_
  show wpAny _ _ ((compStart (.DictComp kx vx [⟨t0, i0, ifs0, 0⟩, ⟨t1, i1, ifs1, 0⟩] scope pos) 1 it (.ref D) env).onRaise (fun x => do noteFrame x env; standAt theWindowsPlace)) _ _ s
  refine wpAny_notedAt ?_
  unfold compStart
  show wpAny _ _ (ask >>= _) _ _ s
  refine wpAny_bind (wpAny_askSetting (wpAny_ite ?_))
  split
  · first
      | exact wpAny_bind (wpAny_pure (wpAny_pure (And.intro rfl h0)))
      | exact wpAny_pure (And.intro rfl h0)
  · first
      | exact wpAny_bind (wpAny_rule (wpAny_bind (wpAny_standAt (wpAny_bind (wpAny_mono h (fun it' s' h' => wpAny_pure (And.intro rfl h')) fun _ _ x => x)))))
      | (refine wpAny_bind (wpAny_rule ?_); show wpAny _ _ (standAt i1.pos >>= _) _ _ s; exact wpAny_bind (wpAny_standAt (wpAny_bind (wpAny_mono h (fun it' s' h' => wpAny_pure (And.intro rfl h')) fun _ _ x => x))))
end


section
variable {X : Cx}
/-- [elt for tg in iter if .. for tg1 in iter1 if ..]: behind the first clause's store and tests the second source's own loop, from which Nx is reached. vs: the block's names; vs1: those of the second target -/
def tDc2 (wi : TI) (g : TG) (tt : TT) (wi1 : TI) (g1 : TG) (tt1 : TT) (tk tv : TE) (vs vs1 : List Nat) : TE := fun σ H Q => wi σ H fun J H1 => ∀ D, H1 D = none → ∃ W : Nat → Nat → Hp → Prop, (∃ m, W 0 m (upd H1 D (.dK []))) ∧ ∀ i m H, W i m H →
  (J.stop i H ∧ Q (.ref D) H) ∨ (J.go i H ∧ ∃ Nx : Hp → Prop, (∀ H', Nx H' → ∃ m', m' < m ∧ W (i + 1) m' H') ∧ ∀ x H', J.yld i H x H' → g x (wipe σ vs) H' fun σ2 H2 => wipe σ2 vs = wipe σ vs ∧ tt σ2 H2 fun b H3 =>
    if b = true then wi1 σ2 H3 fun J1 H4 => ∃ W1 : Nat → Nat → Hp → Prop, (∃ m, W1 0 m H4) ∧ ∀ j k H, W1 j k H →
      (J1.stop j H ∧ Nx H) ∨ (J1.go j H ∧ ∃ Nx1 : Hp → Prop, (∀ H', Nx1 H' → ∃ k', k' < k ∧ W1 (j + 1) k' H') ∧ ∀ x H', J1.yld j H x H' → g1 x (wipe σ2 vs1) H' fun σ3 H5 => wipe σ3 vs1 = wipe σ2 vs1 ∧ tt1 σ3 H5 fun b H6 =>
        if b = true then tk σ3 H6 fun y H7 => tv σ3 H7 fun z H8 => ∃ kvs k, y = kV k ∧ H8 D = some (.dK kvs) ∧ kvs.length < sizeLine ∧ Nx1 (upd H8 D (.dK (putK kvs k z))) else Nx1 H6)
    else Nx H3)
theorem dc2_core {pins : List (Addr × Obj)} {s : Shared} {σ : St} {H : Hp} {Q : VK} {kx vx tg iter tg1 iter1 : Expr} {ifs ifs1 : List Expr} {scope : Scope} {own : List (Str × Nat)} {vs1 : List Nat} {pos pos' : Pos} {wi wi1 : TI} {g g1 : TG} {tt tt1 : TT} {tk tv : TE} {use : Option (Value → Sem Unit)} {Qf : Value → Shared → Prop}
    (hc : X.calm = true) (hN : X.N.Nodup) (I : Inv X pins σ H s) (hi : PI X tg iter wi) (ok : BlkOk X.N X.env.scope scope own) (hv : ∀ i ∈ vs1, i ∈ own.map (·.2))
    (hg : ∀ (s : Shared) (H : Hp) (C : Addr) (cl : List (Str × Addr)) (fp : List Addr), PG (X.blk s H scope (compEnvC scope cl C X.env) fp) tg g) (ht : ∀ (s : Shared) (H : Hp) (C : Addr) (cl : List (Str × Addr)) (fp : List Addr), PTs (X.blk s H scope (compEnvC scope cl C X.env) fp) ifs tt)
    (hk : ∀ (s : Shared) (H : Hp) (C : Addr) (cl : List (Str × Addr)) (fp : List Addr), PE (X.blk s H scope (compEnvC scope cl C X.env) fp) kx tk)
    (he : ∀ (s : Shared) (H : Hp) (C : Addr) (cl : List (Str × Addr)) (fp : List Addr), PE (X.blk s H scope (compEnvC scope cl C X.env) fp) vx tv) (hs : ∀ x, foldedSetIterable iter X.env x = pure x)
    (hi1 : ∀ (s : Shared) (H : Hp) (C : Addr) (cl : List (Str × Addr)) (fp : List Addr), PI (X.blk s H scope (compEnvC scope cl C X.env) fp) tg1 iter1 wi1)
    (hg1 : ∀ (s : Shared) (H : Hp) (C : Addr) (cl : List (Str × Addr)) (fp : List Addr), PG (X.blk s H scope (compEnvC scope cl C X.env) fp) tg1 g1)
    (ht1 : ∀ (s : Shared) (H : Hp) (C : Addr) (cl : List (Str × Addr)) (fp : List Addr), PTs (X.blk s H scope (compEnvC scope cl C X.env) fp) ifs1 tt1)
    (hs1 : ∀ env x, foldedSetIterable iter1 env x = pure x)
    (h : tDc2 wi g tt wi1 g1 tt1 tk tv (own.map (·.2)) vs1 σ H Q)
    (hRR : ∀ D C s' m H', Inv X pins σ H' s' → Q (.ref D) H' → s'.heap.Ns C m → FpOk X pins H' C → compPost (model X.prog X.w) X.A X.xe use Qf (.ref D) C (.ok .next) s') :
    wpAny (model X.prog X.w) X.A (comprehension (.DictComp kx vx [⟨tg, iter, ifs, 0⟩, ⟨tg1, iter1, ifs1, 0⟩] scope pos) scope X.env pos' newDict false (eval iter X.env) use) Qf X.xe s := by
  have hfree : ∀ y ∈ scope.names, y.2 = .free → ∃ c, X.env.cells.lookup y.1 = some c := fun y hy e => by
    rcases ok.free y hy e with k | k
    · exact I.ok.has _ (.inl k)
    · exact I.ok.has _ (.inr k)
  refine wpAny_comprehension_free (use := use) rfl hs (closure_ok hfree) ok.kind (fun y hy e => by rw [ok.uniq y hy, e])
    (thn (hi.run pins s σ H _ I h) fun xv s1 hx => thn hx fun itv s2 h2 => ?_)
  obtain ⟨it, fp, tn, J, H2, e, I2, T, st2, f2, q⟩ := h2
  subst e
  refine wpAny_newObj_type (newEnv_comp ?_)
  generalize hD : s2.heap.objs.size = D
  have hDn : H2 D = none := I2.hok.fresh (Nat.le_of_eq hD)
  obtain ⟨W, ⟨m0, w0⟩, turn⟩ := q D hDn
  -- the new list
  generalize hs3 : ({ s2 with heap := s2.heap.push { cls := .type "dict", data := .dict #[] } } : Shared) = s3
  have I3 : Inv X pins σ (upd H2 D (.dK [])) s3 := by
    rw [← hs3]
    refine I2.laid (t' := s2.toks) (fun b o e => Heap.get?_push_of_some _ e) (Nat.le_of_eq hD) ?_
    rw [← hD]
    exact dk_empty s2.heap I2.big
  have h3 : s3.heap = s2.heap.push { cls := .type "dict", data := .dict #[] } := by rw [← hs3]
  have sz : ∀ b ∈ fp, b < s2.heap.objs.size := fun b hb => by
    obtain ⟨o, e, _⟩ := T.obj _ _ st2 b hb
    exact Heap.lt_size e
  have f3 : ∀ b ∈ fp, FpOk X pins (upd H2 D (.dK [])) b ∧ b < s3.heap.objs.size := fun b hb => by
    have hlt := sz b hb
    refine ⟨⟨?_, (f2 b hb).2⟩, by rw [h3, Heap.size_push]; exact Nat.lt_succ_of_lt hlt⟩
    rw [upd_ne (by rw [← hD]; exact Nat.ne_of_lt hlt)]
    exact (f2 b hb).1
  have st3 : tn 0 s3.heap := T.keep _ _ _ st2 fun b _ o e => by rw [h3]; exact Heap.get?_push_of_some _ e
  have I4 := block_start I3 ok hN f3
  have pg := hg s3 (upd H2 D (.dK [])) s3.heap.objs.size (cellsFrom (s3.heap.objs.size + 1) scope.names (cloFrom X.env.cells scope.names [])) fp
  have pt := ht s3 (upd H2 D (.dK [])) s3.heap.objs.size (cellsFrom (s3.heap.objs.size + 1) scope.names (cloFrom X.env.cells scope.names [])) fp
  have pk := hk s3 (upd H2 D (.dK [])) s3.heap.objs.size (cellsFrom (s3.heap.objs.size + 1) scope.names (cloFrom X.env.cells scope.names [])) fp
  have pe := he s3 (upd H2 D (.dK [])) s3.heap.objs.size (cellsFrom (s3.heap.objs.size + 1) scope.names (cloFrom X.env.cells scope.names [])) fp
  have pi1 := hi1 s3 (upd H2 D (.dK [])) s3.heap.objs.size (cellsFrom (s3.heap.objs.size + 1) scope.names (cloFrom X.env.cells scope.names [])) fp
  have pg1 := hg1 s3 (upd H2 D (.dK [])) s3.heap.objs.size (cellsFrom (s3.heap.objs.size + 1) scope.names (cloFrom X.env.cells scope.names [])) fp
  have pt1 := ht1 s3 (upd H2 D (.dK [])) s3.heap.objs.size (cellsFrom (s3.heap.objs.size + 1) scope.names (cloFrom X.env.cells scope.names [])) fp
  show codeAny _ _ (.compStart (.DictComp kx vx [⟨tg, iter, ifs, 0⟩, ⟨tg1, iter1, ifs1, 0⟩] scope pos) 0 (.ref it) (.ref D) (compEnvC scope (cellsFrom (s3.heap.objs.size + 1) scope.names (cloFrom X.env.cells scope.names [])) s3.heap.objs.size X.env)) (compPost (model X.prog X.w) X.A X.xe use Qf (.ref D) s3.heap.objs.size) { s3 with heap := pushCells (s3.heap.push { cls := .type "dict", data := .dict #[] }) scope.names }
  have nfp : ∀ b ∈ fp, (upd H2 D (.dK [])) b = none := fun b hb => (f3 b hb).1.1
  generalize hce : compEnvC scope (cellsFrom (s3.heap.objs.size + 1) scope.names (cloFrom X.env.cells scope.names [])) s3.heap.objs.size X.env = ce at I4 pg pt pk pe pi1 pg1 pt1 ⊢
  have cL : ce.locals = s3.heap.objs.size := by subst hce; rfl
  generalize hH3 : upd H2 D (.dK []) = H3 at I3 I4 pg pt pk pe pi1 pg1 pt1 w0 nfp f3
  generalize hs4 : ({ s3 with heap := pushCells (s3.heap.push { cls := .type "dict", data := .dict #[] }) scope.names } : Shared) = s4 at I4 ⊢
  have st4 : tn 0 s4.heap := T.keep _ _ _ st3 fun b _ o e => by rw [← hs4]; exact pushCells_keeps _ _ _ _ (Heap.get?_push_of_some _ e)
  have stat : ∀ {σ' : St} {H' : Hp} {s' : Shared}, Inv (X.blk s3 H3 scope ce fp) [] σ' H' s' → (∀ b ∈ fp, H' b = none) → ∀ b ∈ fp, FpOk (X.blk s3 H3 scope ce fp) [] H' b := fun {σ' H' s'} I' hn b hb =>
    ⟨hn b hb, (I'.ok.exf b hb).1, I'.ok.exfs b hb, .inl hb, fun x c e => (I'.ok.exf b hb).2 x c e, fun p hp => absurd (show p ∈ ([] : List (Addr × Obj)) ++ [] from hp) (by simp)⟩
  have loop : codeAny (model X.prog X.w) X.A (.compLoop (.DictComp kx vx [⟨tg, iter, ifs, 0⟩, ⟨tg1, iter1, ifs1, 0⟩] scope pos) 0 (.ref it) (.ref D) ce) (compPost (model X.prog X.w) X.A X.xe use Qf (.ref D) s3.heap.objs.size) s4 := by
    refine dloop2_out (hs1 ce) (fun n s' => ∃ i H', Inv (X.blk s3 H3 scope ce fp) [] (wipe σ (own.map (·.2))) H' s' ∧ tn i s'.heap ∧ (∀ b ∈ fp, H' b = none) ∧ W i n H') ?_ m0 ⟨0, H3, I4, st4, nfp, w0⟩
    rintro n s5 ⟨i, H5, I5, st5, n5, w5⟩
    rcases turn i n H5 w5 with ⟨stop, qq⟩ | ⟨go, Nx, hNx, step⟩
    · have td := T.done (X.blk s3 H3 scope ce fp) rfl rfl rfl hc i [] s5 _ H5 (fun _ _ => False) I5 (stat I5 n5) st5 stop
      refine thnF td fun r s6 ⟨hr, I6⟩ => ?_
      subst hr
      -- back in the def's context
      have I7 : Inv X pins σ H5 s6 := I3.call' (ch := fp) I6.os I6.base I6.hok I6.bare fun b hb => ⟨(f3 b hb).1.2.2.2.1, (f3 b hb).1.2.1, (f3 b hb).1.2.2.2.2.1, (f3 b hb).1.2.2.2.2.2⟩
      have nC : H5 s3.heap.objs.size = none := by
        have z : H5 ce.locals = none := I6.free
        rw [cL] at z
        exact z
      obtain ⟨m, hn, _⟩ := I6.loc
      have hn : s6.heap.Ns ce.locals m := hn
      rw [cL] at hn
      exact hRR D s3.heap.objs.size s6 m H5 I7 qq hn (I3.fpOk (Nat.le_refl _) nC)
    · have ti := T.item (X.blk s3 H3 scope ce fp) rfl rfl rfl hc i [] s5 _ H5 (fun _ _ => False) I5 (stat I5 n5) st5 go
      refine thnF ti fun r s6 ⟨u, hr, h6⟩ => ?_
      subst hr
      refine thnF h6 fun _ s7 ⟨x, H7, I7, r7, y7, st7, n7⟩ => ?_
      have I7' := I7.pinned (stat I7 n7) (T.obj _ _ st7)
      refine thnF (pg.run _ s7 _ H7 x u _ I7' r7 (step x H7 y7)) fun _ s8 ⟨σ8, H8, I8, hw8, q8⟩ => ?_
      refine thnF (pt.run _ s8 σ8 H8 _ I8 q8) fun b s9 ⟨H9, I9, q9⟩ => ?_
      -- the turn's end, from any slots that know what the block knew at its start
      have fin : ∀ {σ9 : St} {s' : Shared} {H' : Hp}, Inv (X.blk s3 H3 scope ce fp) ([] ++ pinsAt fp s7.heap) σ9 H' s' → (wipe σ (own.map (·.2))).length = σ9.length → (∀ (j : Nat) v, (wipe σ (own.map (·.2)))[j]? = some (some v) → σ9[j]? = some (some v)) → Nx H' →
          ∃ m, m < n ∧ ∃ i H', Inv (X.blk s3 H3 scope ce fp) [] (wipe σ (own.map (·.2))) H' s' ∧ tn i s'.heap ∧ (∀ b ∈ fp, H' b = none) ∧ W i m H' := fun {σ9 s' H'} I' hl hk nx => by
        obtain ⟨m', hm, w'⟩ := hNx H' nx
        have pin' : ∀ b ∈ fp, ∀ o, s7.heap.get? b = some o → s'.heap.get? b = some o ∧ H' b = none := fun b hb o e =>
          let z := I'.pin (b, o) (List.mem_append_right _ (List.mem_append_right _ (mem_pinsAt hb e)))
          ⟨z.1, z.2.1⟩
        refine ⟨m', hm, i + 1, H', (I'.unpinned (pins := [])).weak hl hk, T.keep _ _ _ st7 fun b hb o e => (pin' b hb o e).1, fun b hb => ?_, w'⟩
        obtain ⟨o, e, _⟩ := T.obj _ _ st7 b hb
        exact (pin' b hb o e).2
      have hl8 : (wipe σ (own.map (·.2))).length = σ8.length := by rw [← hw8, wipe_length]
      have hk8 : ∀ (j : Nat) v, (wipe σ (own.map (·.2)))[j]? = some (some v) → σ8[j]? = some (some v) := fun j v e => by
        rw [← hw8] at e
        exact (wipe_some e).1
      have hk9 : ∀ (j : Nat) v, (wipe σ (own.map (·.2)))[j]? = some (some v) → (wipe σ8 vs1)[j]? = some (some v) := fun j v e => by
        rw [← hw8] at e
        obtain ⟨e1, e2⟩ := wipe_some e
        rw [wipe_out fun z => e2 (hv j z)]
        exact e1
      cases b with
      | false =>
        simp only [Bool.false_eq_true, if_false] at q9 ⊢
        exact fin I9 hl8 hk8 q9
      | true =>
        simp only [if_true] at q9 ⊢
        refine thnF (pi1.run _ s9 σ8 H9 _ I9 q9) fun xv s10 hx => thnF hx fun itv s11 h11 => ?_
        obtain ⟨it1, fp1, tn1, J1, H11, e1, I11, T1, st11, f11, W1, ⟨m1, w1⟩, turn1⟩ := h11
        subst e1
        -- the inner loop
        have stat1 : ∀ {H' : Hp}, (∀ b ∈ fp1, H' b = none) → ∀ b ∈ fp1, FpOk (X.blk s3 H3 scope ce fp) ([] ++ pinsAt fp s7.heap) H' b := fun hn b hb => ⟨hn b hb, (f11 b hb).2⟩
        have loop1 : codeAny (model X.prog X.w) X.A (.compLoop (.DictComp kx vx [⟨tg, iter, ifs, 0⟩, ⟨tg1, iter1, ifs1, 0⟩] scope pos) 1 (.ref it1) (.ref D) ce)
            (fun r s' => match r with
              | .ok _ => ∃ m, m < n ∧ ∃ i H', Inv (X.blk s3 H3 scope ce fp) [] (wipe σ (own.map (·.2))) H' s' ∧ tn i s'.heap ∧ (∀ b ∈ fp, H' b = none) ∧ W i m H'
              | .error _ => False) s11 := by
          refine dloop2_in (fun k s' => ∃ j H', Inv (X.blk s3 H3 scope ce fp) ([] ++ pinsAt fp s7.heap) (wipe σ8 vs1) H' s' ∧ tn1 j s'.heap ∧ (∀ b ∈ fp1, H' b = none) ∧ W1 j k H') ?_ m1 ⟨0, H11, I11.weak (wipe_length _ _) (fun j v e => (wipe_some e).1), st11, fun b hb => (f11 b hb).1, w1⟩
          rintro k s12 ⟨j, H12, I12, st12, n12, w12⟩
          rcases turn1 j k H12 w12 with ⟨stop1, nx1⟩ | ⟨go1, Nx1, hNx1, step1⟩
          · refine thnF (T1.done (X.blk s3 H3 scope ce fp) rfl rfl rfl hc j _ s12 (wipe σ8 vs1) H12 (fun _ _ => False) I12 (stat1 n12) st12 stop1) fun r s13 ⟨hr, I13⟩ => ?_
            subst hr
            exact fin I13 (hl8.trans (wipe_length σ8 vs1).symm) hk9 nx1
          · refine thnF (T1.item (X.blk s3 H3 scope ce fp) rfl rfl rfl hc j _ s12 (wipe σ8 vs1) H12 (fun _ _ => False) I12 (stat1 n12) st12 go1) fun r s13 ⟨u1, hr, h13⟩ => ?_
            subst hr
            refine thnF h13 fun _ s14 ⟨x1, H14, I14, r14, y14, st14, n14⟩ => ?_
            have I14' := I14.pinned (stat1 n14) (T1.obj _ _ st14)
            refine thnF (pg1.run _ s14 (wipe σ8 vs1) H14 x1 u1 _ I14' r14 (step1 x1 H14 y14)) fun _ s15 ⟨σ15, H15, I15, hw15, q15⟩ => ?_
            refine thnF (pt1.run _ s15 σ15 H15 _ I15 q15) fun b1 s16 ⟨H16, I16, q16⟩ => ?_
            have fin1 : ∀ {s' : Shared} {H' : Hp}, Inv (X.blk s3 H3 scope ce fp) (([] ++ pinsAt fp s7.heap) ++ pinsAt fp1 s14.heap) σ15 H' s' → Nx1 H' → ∃ m, m < k ∧ ∃ j H', Inv (X.blk s3 H3 scope ce fp) ([] ++ pinsAt fp s7.heap) (wipe σ8 vs1) H' s' ∧ tn1 j s'.heap ∧ (∀ b ∈ fp1, H' b = none) ∧ W1 j m H' := fun {s' H'} I' nx => by
              obtain ⟨m', hm, w'⟩ := hNx1 H' nx
              have pin' : ∀ b ∈ fp1, ∀ o, s14.heap.get? b = some o → s'.heap.get? b = some o ∧ H' b = none := fun b hb o e =>
                let z := I'.pin (b, o) (List.mem_append_right _ (List.mem_append_right _ (mem_pinsAt hb e)))
                ⟨z.1, z.2.1⟩
              refine ⟨m', hm, j + 1, H', I'.unpinned.weak (by rw [← hw15, wipe_length]) (fun j v e => by rw [← hw15] at e; exact (wipe_some e).1), T1.keep _ _ _ st14 fun b hb o e => (pin' b hb o e).1, fun b hb => ?_, w'⟩
              obtain ⟨o, e, _⟩ := T1.obj _ _ st14 b hb
              exact (pin' b hb o e).2
            cases b1 with
            | false =>
              simp only [Bool.false_eq_true, if_false] at q16 ⊢
              exact fin1 I16 q16
            | true =>
              simp only [if_true] at q16 ⊢
              refine thnF (pk.run _ s16 σ15 H16 _ I16 q16) fun z s17 ⟨yk, H17, I17, r17, q17⟩ => ?_
              refine thnF (pe.run _ s17 σ15 H17 _ I17 q17) fun z2 s18 ⟨yv, H18, I18, r18, kvs, kk, ek, hD18, hz18, nx⟩ => ?_
              subst ek
              exact d_dictSet (X := X.blk s3 H3 scope ce fp) I18 hD18 hz18 r17 r18 fun s19 I19 => fin1 I19 nx
        exact dstart1_ok loop1 (T1.self X.A 0 _ _ _ st11 loop1)
  exact codeAny_compStart_dict loop (T.self X.A 0 _ _ _ st4 loop)

theorem pe_dc2 {kx vx tg iter tg1 iter1 : Expr} {ifs ifs1 : List Expr} {scope : Scope} {own : List (Str × Nat)} {vs1 : List Nat} {pos : Pos} {wi wi1 : TI} {g g1 : TG} {tt tt1 : TT} {tk tv : TE} (hc : X.calm = true) (hN : X.N.Nodup) (hi : PI X tg iter wi) (ok : BlkOk X.N X.env.scope scope own) (hv : ∀ i ∈ vs1, i ∈ own.map (·.2))
    (hg : ∀ (s : Shared) (H : Hp) (C : Addr) (cl : List (Str × Addr)) (fp : List Addr), PG (X.blk s H scope (compEnvC scope cl C X.env) fp) tg g) (ht : ∀ (s : Shared) (H : Hp) (C : Addr) (cl : List (Str × Addr)) (fp : List Addr), PTs (X.blk s H scope (compEnvC scope cl C X.env) fp) ifs tt)
    (hi1 : ∀ (s : Shared) (H : Hp) (C : Addr) (cl : List (Str × Addr)) (fp : List Addr), PI (X.blk s H scope (compEnvC scope cl C X.env) fp) tg1 iter1 wi1)
    (hg1 : ∀ (s : Shared) (H : Hp) (C : Addr) (cl : List (Str × Addr)) (fp : List Addr), PG (X.blk s H scope (compEnvC scope cl C X.env) fp) tg1 g1) (ht1 : ∀ (s : Shared) (H : Hp) (C : Addr) (cl : List (Str × Addr)) (fp : List Addr), PTs (X.blk s H scope (compEnvC scope cl C X.env) fp) ifs1 tt1)
    (hk : ∀ (s : Shared) (H : Hp) (C : Addr) (cl : List (Str × Addr)) (fp : List Addr), PE (X.blk s H scope (compEnvC scope cl C X.env) fp) kx tk)
    (he : ∀ (s : Shared) (H : Hp) (C : Addr) (cl : List (Str × Addr)) (fp : List Addr), PE (X.blk s H scope (compEnvC scope cl C X.env) fp) vx tv) (hs : ∀ x, foldedSetIterable iter X.env x = pure x) (hs1 : ∀ env x, foldedSetIterable iter1 env x = pure x) :
    PE X (.DictComp kx vx [⟨tg, iter, ifs, 0⟩, ⟨tg1, iter1, ifs1, 0⟩] scope pos) (tDc2 wi g tt wi1 g1 tt1 tk tv (own.map (·.2)) vs1) := by
  refine ⟨fun pins s σ H Q I h => ?_⟩
  rw [arm_eval_DictComp]
  refine dc2_core hc hN I hi ok hv hg ht hk he hs hi1 hg1 ht1 hs1 h fun D C s' m H' I' q hn f => ⟨m, hn, fun h'' sb => ?_⟩
  obtain ⟨f0, f1, f2, f3, f4, f5⟩ := f
  exact ⟨.ref D, H', I'.turned (t' := s'.toks) (fun b o hb e => (sb.2 b hb).trans e) f0 f1 f3 f4 f5, rfl, q⟩
end
end L2
end

section
set_option Elab.async false
set_option linter.all false
set_option maxRecDepth 100000
/-! SyP: the work of a dict comprehension of two clauses; comprehensions as expressions. -/
namespace Sy
open PySem L2 PyProof.Rows
section
variable {Γ : Tx} {X : Cx} {α β γ δ : Type} {rp : Rp α β} {rp' : Rp γ δ} {Z Z1 : Addr → Prop} {ad ad1 : List Addr} {H H1 : Hp} {ρ : Env} {μ : Sto} {σ σ2 : L2.St} {vs vs1 sl sl1 : List Nat}
variable {elt tg iter tg1 iter1 kx vx : Expr} {ifs ifs1 : List Expr} {scope : Scope} {own : List (Str × Nat)} {pos : Pos} {FG FG1 : W → Env → Sto → R Env} {FT : Env → Sto → R Bool} {FE FV : Env → Sto → R W} {FI : Sto → R (List T)} {FI1 : Env → Sto → R (List T)}
theorem gath2_step {body : T → Sto → R (List T)} {x : T} {xs : List T} {K : List T → Sto → R γ} : ((gath2 body (x :: xs) μ).bind K) = (body x μ).bind fun us μ => (gath2 body xs μ).bind fun vs μ => K (us ++ vs) μ := by
  show ((body x μ).bind _).bind K = _
  rw [R.bind_assoc]
  congr 1
  funext o μ
  rw [R.bind_assoc]
  congr 1
theorem pi_ex (h : ∀ ρ, SI Γ X ρ tg iter (FI1 ρ)) : PI X tg iter (tEx Γ (rpI Γ) FI1) := ⟨fun pins s σ H Q I ⟨ρ, μ, q⟩ => (h ρ μ).run pins s σ H Q I q⟩
theorem KD_cons {k : Bool} {dn : List T} {p : T} {ps : List T} : KD k dn (p :: ps) μ = KD k (dn ++ [p]) ps μ := by
  unfold KD
  rw [List.append_assoc]
  rfl
/-- the dict as it grows -/
def DSt (Γ : Tx) (Z1 : Addr → Prop) (ad1 : List Addr) (H1 : Hp) (D : Addr) (dn : List T) (μ : Sto) (Z : Addr → Prop) (ad : List Addr) (H : Hp) : Prop :=
  Ste Γ Z ad μ H ∧ Ext Z1 ad1 H1 Z ad H ∧ D ∉ ad ∧ ¬ Z D ∧ ∃ ks ts kvs, H D = some (.dK kvs) ∧ putAll dn [] [] = some (ks, ts) ∧ ks = kvs.map (·.1) ∧ Reps Γ Z (strip H) ts (kvs.map (·.2)) ∧ kvs.length ≤ dn.length
theorem DSt.ext {D : Addr} {dn : List T} {μ μ' : Sto} {Z' : Addr → Prop} {ad' : List Addr} {H' : Hp} (h : DSt Γ Z1 ad1 H1 D dn μ Z ad H) (s : Ste Γ Z' ad' μ' H') (x : Ext Z ad H Z' ad' H') : DSt Γ Z1 ad1 H1 D dn μ' Z' ad' H' := by
  obtain ⟨s0, x0, nD, nZ, ks, ts, kvs, hD, hp, hk, hr, hl⟩ := h
  obtain ⟨k1, k2, k3⟩ := x.keep hD nD nZ
  exact ⟨s, x0.trans x, k2, k3, ks, ts, kvs, k1, hp, hk, x.reps hr, hl⟩
theorem Slo.byUpd {D : Addr} {o : HO} (l : Slo Γ Z ad ρ σ H) (n : noFrz o) (nZ : ¬ Z D) : Slo Γ Z ad ρ σ (upd H D o) :=
  ⟨l.len, fun i w h => let ⟨v, h1, h2⟩ := l.sl i w h; ⟨v, h1, by
    cases w with
    | t t => exact Rep.mono (fun _ z => z) (fun b hb => strip_ne n (fun q => nZ (by rw [← q]; exact hb))) _ _ h2
    | loc n => exact h2⟩⟩
theorem tyes_if {A B : Hp → Prop} (h : A H) : tYes σ H fun b H3 => if b = true then A H3 else B H3 := by
  show (if true = true then A H else B H)
  rw [if_pos rfl]
  exact h
theorem dc2_imp {k : Bool} {Q : VK} (hs : ∀ i ∈ sl, i ∈ vs) (hs1 : ∀ i ∈ sl1, i ∈ vs1)
    (h : tS Γ ρ μ (rpW Γ) ((FI μ).bind fun xs μ => (gath2 (obody vs vs1 FG FG1 FI1 FT (frP FE FV) ρ) xs μ).bind fun ps μ => KD k [] ps μ) σ H Q) :
    tDc2 (tS Γ ρ μ (rpI Γ) (FI μ)) (gEx Γ sl FG) tYes (tEx Γ (rpI Γ) FI1) (gEx Γ sl1 FG1) (tEx Γ rpB FT) (tEx Γ (rpW Γ) FE) (tEx Γ (rpW Γ) FV) vs vs1 σ H Q := by
  obtain ⟨Z, ad, s, l, h⟩ := h
  refine step s l h fun xs μ1 J H1 Z1 ad1 e s1 l1 x1 r1 h1 => ?_
  intro D hD
  obtain ⟨s1', x1'⟩ := s1.waste (o := .dK []) hD trivial
  have nD1 : D ∉ ad1 := fun z => s1.dom z hD
  have nZ1 : ¬ Z1 D := fun z => s1.zd D z hD
  let P : Nat → Hp → Prop := fun i H => i ≤ xs.length ∧ ∃ Z ad μ dn, DSt Γ Z1 ad1 H1 D dn μ Z ad H ∧
      Out Γ (rpW Γ) Z1 ad1 H1 ((gath2 (obody vs vs1 FG FG1 FI1 FT (frP FE FV) ρ) (xs.drop i) μ).bind fun ps μ => KD k dn ps μ) Q
  refine ⟨fun i m H => m = xs.length - i ∧ P i H, ⟨xs.length - 0, rfl, Nat.zero_le _, Z1, ad1, μ1, [], ⟨s1', x1', nD1, nZ1, [], [], [], upd_same, rfl, rfl, reps_nil.mpr rfl, Nat.le_refl _⟩, by simpa using h1⟩, fun i m H ⟨hm, hi, Z, ad, μ, dn, ds, h⟩ => ?_⟩
  have s := ds.1
  have x := ds.2.1
  obtain ⟨w1, w2, w3⟩ := r1 Z ad μ H s x.wk
  by_cases hlt : i < xs.length
  · refine .inr ⟨w1 i hlt, P (i + 1), fun H' q => ⟨m - 1, by omega, by omega, q⟩, fun y H' hy => ?_⟩
    obtain ⟨Z2, s2, x2, r2⟩ := w3 i xs[i] y H' (List.getElem?_eq_getElem hlt) hy
    have e1 : xs.drop i = xs[i] :: xs.drop (i + 1) := List.drop_eq_getElem_cons hlt
    rw [e1, gath2_step] at h
    unfold obody at h
    rw [R.bind_assoc] at h
    refine ⟨.t xs[i], unset ρ vs, μ, Z2, ad, s2, unset_wipe ((l1.ext x).ext x2) vs, r2, Out.stepB h fun ρ1 μ3 σ3 H3 Z3 ad3 e3 s3 x3 ⟨l3, n3, g3⟩ h3 => ⟨wipe_eq hs n3 g3, ?_⟩⟩
    rw [R.bind_assoc] at h3
    refine tyes_if ?_
    refine ⟨ρ1, μ3, stepB s3 l3 h3 fun ys μ4 J1 H4 Z4 ad4 e4 s4 l4 x4 r4 h4 => ?_⟩
    have ds4 := ds.ext s4 ((x2.trans x3).trans x4)
    let P1 : Nat → Hp → Prop := fun j H => j ≤ ys.length ∧ ∃ Z ad μ dn, DSt Γ Z1 ad1 H1 D dn μ Z ad H ∧ Slo Γ Z ad ρ1 σ3 H ∧ Wkr Z4 H4 Z H ∧
      Out Γ (rpW Γ) Z1 ad1 H1 ((gath (cbody vs1 FG1 FT (frP FE FV) ρ1) (ys.drop j) μ).bind fun us μ => (gath2 (obody vs vs1 FG FG1 FI1 FT (frP FE FV) ρ) (xs.drop (i + 1)) μ).bind fun ps μ => KD k dn (us ++ ps) μ) Q
    refine ⟨fun j m H => m = ys.length - j ∧ P1 j H, ⟨ys.length - 0, rfl, Nat.zero_le _, Z4, ad4, μ4, dn, ds4, l4, (Ext.refl s4).wk, by rw [List.drop_zero]; exact h4⟩, fun j m1 H5 ⟨hm1, hj, Z5, ad5, μ5, dn5, ds5, l5, x5, h5⟩ => ?_⟩
    obtain ⟨v1, v2, v3⟩ := r4 Z5 ad5 μ5 H5 ds5.1 x5
    by_cases hlt1 : j < ys.length
    · refine .inr ⟨v1 j hlt1, P1 (j + 1), fun H' q => ⟨m1 - 1, by omega, by omega, q⟩, fun y1 H6 hy1 => ?_⟩
      obtain ⟨Z6, s6, x6, r6⟩ := v3 j ys[j] y1 H6 (List.getElem?_eq_getElem hlt1) hy1
      have e2 : ys.drop j = ys[j] :: ys.drop (j + 1) := List.drop_eq_getElem_cons hlt1
      rw [e2, gath_step] at h5
      unfold cbody at h5
      rw [R.bind_assoc] at h5
      refine ⟨.t ys[j], unset ρ1 vs1, μ5, Z6, ad5, s6, unset_wipe (l5.ext x6) vs1, r6, Out.stepB h5 fun ρ' μ7 σ7 H7 Z7 ad7 e7 s7 x7 ⟨l7, n7, g7⟩ h7 => ⟨wipe_eq hs1 n7 g7, ?_⟩⟩
      rw [R.bind_assoc] at h7
      refine ⟨ρ', μ7, stepB s7 l7 h7 fun b μ8 b' H8 Z8 ad8 e8 s8 l8 x8 r8 h8 => ?_⟩
      have r8 : b = b' := r8
      subst r8
      cases b with
      | false =>
        rw [if_neg (by decide)]
        exact ⟨hlt1, Z8, ad8, μ8, dn5, ds5.ext s8 ((x6.trans x7).trans x8), l5.ext ((x6.trans x7).trans x8), x5.trans ((x6.trans x7).trans x8).wk, h8⟩
      | true =>
        rw [if_pos rfl]
        rw [R.bind_assoc] at h8
        unfold frP at h8
        rw [R.bind_assoc] at h8
        refine ⟨ρ', μ8, stepB s8 l8 h8 fun w μ9 y9 H9 Z9 ad9 e9 s9 l9 x9 r9 h9 => ?_⟩
        rw [R.bind_assoc] at h9
        obtain ⟨t, μ10, Z10, s10, x10, r10, h10⟩ := toT_B s9 r9 h9
        rw [R.bind_assoc] at h10
        refine ⟨ρ', μ10, stepB s10 (l9.ext x10) h10 fun w' μ11 y11 H11 Z11 ad11 e11 s11 l11 x11 r11 h11 => ?_⟩
        rw [R.bind_assoc] at h11
        obtain ⟨u, μ12, Z12, s12, x12, r12, h12⟩ := toT_B s11 r11 h11
        have xx := ((x6.trans x7).trans x8).trans ((x9.trans x10).trans (x11.trans x12))
        obtain ⟨s13, x13, nD, nZ, ks, ts, kvs, hD', hp, hk, hr, hl⟩ := ds5.ext s12 xx
        have r10' := (x11.trans x12).rep r10
        have h13 : Out Γ (rpW Γ) Z1 ad1 H1 ((gath (cbody vs1 FG1 FT (frP FE FV) ρ1) (ys.drop (j + 1)) μ12).bind fun us μ => (gath2 (obody vs vs1 FG FG1 FI1 FT (frP FE FV) ρ) (xs.drop (i + 1)) μ).bind fun ps μ => KD k dn5 (T.tup [t, u] :: (us ++ ps)) μ) Q := h12
        have key : ∃ kk, keyOf t = some kk ∧ dn5.length < sizeLine := by
          obtain ⟨us, μ14, e14⟩ := h13.isOk
          rw [e14] at h13
          have h14 : Out Γ (rpW Γ) Z1 ad1 H1 ((gath2 (obody vs vs1 FG FG1 FI1 FT (frP FE FV) ρ) (xs.drop (i + 1)) μ14).bind fun ps μ => KD k dn5 (T.tup [t, u] :: (us ++ ps)) μ) Q := h13
          obtain ⟨ps, μ15, e15⟩ := h14.isOk
          rw [e15] at h14
          have h15 : Out Γ (rpW Γ) Z1 ad1 H1 (KD k dn5 (T.tup [t, u] :: (us ++ ps)) μ15) Q := h14
          unfold KD at h15
          rw [putAll_append, hp] at h15
          simp only [putAll, pairOf] at h15
          cases hq : keyOf t with
          | none => simp only [hq, Out] at h15
          | some kk =>
            refine ⟨kk, rfl, ?_⟩
            simp only [hq] at h15
            split at h15
            · obtain ⟨h16, _⟩ := out_if h15
              rw [List.length_append, List.length_cons] at h16
              omega
            · exact False.elim h15
        obtain ⟨kk, hkk, hsm⟩ := key
        have n6 : noFrz (.dK (putK kvs kk y11)) := trivial
        have st : ∀ b, Z12 b → strip (upd H11 D (.dK (putK kvs kk y11))) b = strip H11 b := fun b hb => strip_ne n6 (fun q => nZ (q ▸ hb))
        obtain ⟨p1, p2⟩ := put_ok (k := kk) hk hr r12
        refine ⟨kvs, kk, key_eq hkk r10'.vu, hD', by omega, hlt1, Z12, ad11, μ12, dn5 ++ [T.tup [t, u]], ⟨s13.other n6 nD nZ, x13.other hD nD nZ n6, nD, nZ, (dput ks ts kk u).1, (dput ks ts kk u).2, putK kvs kk y11, upd_same, ?_, p1, Reps.mono (fun _ z => z) st _ _ p2, ?_⟩, (l5.ext xx).byUpd n6 nZ, x5.trans (xx.wk.trans ⟨fun _ z => z, st, fun a o u h => by rw [upd_ne (fun q => by rw [q, hD'] at h; cases h)]; exact h⟩), ?_⟩
        · rw [putAll_append, hp]
          simp only [putAll, pairOf, hkk]
        · have := length_putK kvs kk y11
          rw [List.length_append]
          show _ ≤ dn5.length + 1
          omega
        · have e8 : (fun (us : List T) (μ : Sto) => (gath2 (obody vs vs1 FG FG1 FI1 FT (frP FE FV) ρ) (xs.drop (i + 1)) μ).bind fun ps μ => KD k dn5 (T.tup [t, u] :: (us ++ ps)) μ) = fun us μ => (gath2 (obody vs vs1 FG FG1 FI1 FT (frP FE FV) ρ) (xs.drop (i + 1)) μ).bind fun ps μ => KD k (dn5 ++ [T.tup [t, u]]) (us ++ ps) μ := by
            funext us μ
            congr 1
            funext ps μ
            exact KD_cons
          rw [e8] at h13
          exact h13
    · have : j = ys.length := by omega
      subst this
      refine .inl ⟨v2, ?_⟩
      rw [List.drop_length] at h5
      exact ⟨hlt, Z5, ad5, μ5, dn5, ds5, h5⟩
  · have : i = xs.length := by omega
    subst this
    refine .inl ⟨w2, ?_⟩
    rw [List.drop_length] at h
    obtain ⟨s, x, nD, nZ, ks, ts, kvs, hD', hp, hk, hr, hl⟩ := ds
    have h : Out Γ (rpW Γ) Z1 ad1 H1 (KD k dn [] μ) Q := h
    unfold KD at h
    rw [List.append_nil, hp] at h
    obtain ⟨_, h⟩ := out_if h
    exact fin_old s x hD hD' (c := .dct ks ts) ⟨_, ⟨kvs, rfl, hk, rfl⟩, hr⟩ nD nZ (Out.giv h)
end
end Sy
end

section
set_option Elab.async false
set_option linter.all false
set_option maxRecDepth 100000
/-! SyQ: statements. -/
namespace Sy
open PySem L2 PyProof.Rows
/-- what is handed on by a statement -/
def OutS (Γ : Tx) (Z : Addr → Prop) (ad : List Addr) (H : Hp) (o : O) (D : Ends) : Prop := match o with
  | .nx ρ' μ' => ∀ σ' H' Z' ad', Ste Γ Z' ad' μ' H' → Ext Z ad H Z' ad' H' → Slo Γ Z' ad' ρ' σ' H' → D.nx σ' H'
  | .bk ρ' μ' => ∀ σ' H' Z' ad', Ste Γ Z' ad' μ' H' → Ext Z ad H Z' ad' H' → Slo Γ Z' ad' ρ' σ' H' → D.bk σ' H'
  | .ct ρ' μ' => ∀ σ' H' Z' ad', Ste Γ Z' ad' μ' H' → Ext Z ad H Z' ad' H' → Slo Γ Z' ad' ρ' σ' H' → D.ct σ' H'
  | .rt w μ' => ∀ v H' Z' ad', Ste Γ Z' ad' μ' H' → Ext Z ad H Z' ad' H' → RepW Γ Z' ad' (strip H') w v → D.rt v H'
  | .ex _ _ => False
  | .bad => False
def tSt (Γ : Tx) (ρ : Env) (μ : Sto) (o : O) : TS := fun D σ H => ∃ Z ad, Ste Γ Z ad μ H ∧ Slo Γ Z ad ρ σ H ∧ OutS Γ Z ad H o D
def SS (Γ : Tx) (X : Cx) (st : Stmt) (F : Env → Sto → O) : Prop := ∀ ρ μ, PS X st (tSt Γ ρ μ (F ρ μ))
def SSs (Γ : Tx) (X : Cx) (st : List Stmt) (F : Env → Sto → O) : Prop := ∀ ρ μ, PSs X st (tSt Γ ρ μ (F ρ μ))
section
variable {Γ : Tx} {X : Cx} {α β γ δ : Type} {rp : Rp α β} {rp' : Rp γ δ} {Z Z0 Z1 : Addr → Prop} {ad ad0 ad1 : List Addr} {H H0 H1 : Hp} {ρ : Env} {μ : Sto} {σ : L2.St} {D : Ends}
variable {st : Stmt} {sts : List Stmt} {e a b c tg iter : Expr} {es rest : List Expr} {F G : Env → Sto → R W} {FL : Env → Sto → R (List W)} {FB : Env → Sto → R Bool} {FG : W → Env → Sto → R Env} {FS GS : Env → Sto → O} {pos p tpos : Pos} {sl : List Nat}
theorem PS.imp {t t' : TS} (h : PS X st t) (q : ∀ D σ H, t' D σ H → t D σ H) : PS X st t' := ⟨fun pins s σ H D I w => h.run pins s σ H D I (q D σ H w)⟩
theorem PSs.imp {t t' : TS} (h : PSs X sts t) (q : ∀ D σ H, t' D σ H → t D σ H) : PSs X sts t' := ⟨fun pins s σ H D I w => h.run pins s σ H D I (q D σ H w)⟩
theorem OutS.ext {o : O} (h : OutS Γ Z ad H o D) (x : Ext Z ad H Z1 ad1 H1) : OutS Γ Z1 ad1 H1 o D := by
  cases o with
  | nx ρ' μ' => exact fun σ' H' Z' ad' s y => h σ' H' Z' ad' s (x.trans y)
  | bk ρ' μ' => exact fun σ' H' Z' ad' s y => h σ' H' Z' ad' s (x.trans y)
  | ct ρ' μ' => exact fun σ' H' Z' ad' s y => h σ' H' Z' ad' s (x.trans y)
  | rt w μ' => exact fun v H' Z' ad' s y => h v H' Z' ad' s (x.trans y)
  | ex _ _ => exact h
  | bad => exact h
theorem OutS.nxt {ρ' : Env} {σ' : L2.St} (s : Ste Γ Z ad μ H) (l : Slo Γ Z ad ρ' σ' H) (h : OutS Γ Z ad H (.nx ρ' μ) D) : D.nx σ' H := h σ' H Z ad s (Ext.refl s) l
/-- one step of a statement -/
theorem stepS {r : R α} {f : α → Sto → O} {K : β → Hp → Prop} (s : Ste Γ Z ad μ H) (l : Slo Γ Z ad ρ σ H) (h : OutS Γ Z ad H (r.out f) D)
    (k : ∀ a μ1 b H1 Z1 ad1, r = .ok a μ1 → Ste Γ Z1 ad1 μ1 H1 → Slo Γ Z1 ad1 ρ σ H1 → Ext Z ad H Z1 ad1 H1 → rp Z1 ad1 H1 a b → OutS Γ Z1 ad1 H1 (f a μ1) D → K b H1) : tS Γ ρ μ rp r σ H K := by
  refine ⟨Z, ad, s, l, ?_⟩
  cases r with
  | ok a μ' => exact fun b H' Z' ad' s' x r => k a μ' b H' Z' ad' rfl s' (l.ext x) x r (OutS.ext (o := f a μ') h x)
  | exc _ _ => exact h
  | bad => exact h
theorem outS_G {ρ' : Env} {r : R Env} (s : Ste Γ Z ad μ H) (h : OutS Γ Z ad H (r.out fun ρ μ => .nx ρ μ) D) : Out Γ (rpG' Γ σ sl) Z ad H r D.nx := by
  cases r with
  | ok a μ' => exact fun b H' Z' ad' s' x r => h b H' Z' ad' s' x r.1
  | exc _ _ => exact h
  | bad => exact h
/-! ### lists of statements -/
theorem sss_nil : SSs Γ X [] fun ρ μ => .nx ρ μ := fun ρ μ => PSs.imp pss_nil fun D σ H ⟨Z, ad, s, l, h⟩ => h.nxt s l
theorem sss_cons (h1 : SS Γ X st FS) (h2 : SSs Γ X sts GS) : SSs Γ X (st :: sts) fun ρ μ => (FS ρ μ).seq GS := fun ρ μ => by
  cases q : FS ρ μ with
  | nx ρ1 μ1 =>
    refine PSs.imp (pss_cons (h1 ρ μ) (h2 ρ1 μ1)) fun D σ H ⟨Z, ad, s, l, h⟩ => ⟨Z, ad, s, l, ?_⟩
    have h : OutS Γ Z ad H ((FS ρ μ).seq GS) D := h
    rw [q] at h ⊢
    exact fun σ' H' Z' ad' s' x l' => ⟨Z', ad', s', l', OutS.ext (o := GS ρ1 μ1) h x⟩
  | bk ρ1 μ1 =>
    refine PSs.imp (pss_cons (h1 ρ μ) (h2 ρ1 μ1)) fun D σ H ⟨Z, ad, s, l, h⟩ => ⟨Z, ad, s, l, ?_⟩
    have h : OutS Γ Z ad H ((FS ρ μ).seq GS) D := h
    rw [q] at h ⊢
    exact h
  | ct ρ1 μ1 =>
    refine PSs.imp (pss_cons (h1 ρ μ) (h2 ρ1 μ1)) fun D σ H ⟨Z, ad, s, l, h⟩ => ⟨Z, ad, s, l, ?_⟩
    have h : OutS Γ Z ad H ((FS ρ μ).seq GS) D := h
    rw [q] at h ⊢
    exact h
  | rt w μ1 =>
    refine PSs.imp (pss_cons (h1 ρ μ) (h2 ρ μ1)) fun D σ H ⟨Z, ad, s, l, h⟩ => ⟨Z, ad, s, l, ?_⟩
    have h : OutS Γ Z ad H ((FS ρ μ).seq GS) D := h
    rw [q] at h ⊢
    exact h
  | ex e μ1 => exact ⟨fun pins s σ H D I ⟨_, _, _, _, h⟩ => by simp only [q, O.seq, OutS] at h⟩
  | bad => exact ⟨fun pins s σ H D I ⟨_, _, _, _, h⟩ => by simp only [q, O.seq, OutS] at h⟩
/-! ### simple statements -/
theorem ss_never : SS Γ X st fun _ _ => .bad := fun ρ μ => ⟨fun pins s σ H D I ⟨_, _, _, _, h⟩ => False.elim h⟩
theorem ss_brk : SS Γ X (.Break pos) fun ρ μ => .bk ρ μ := fun ρ μ => PS.imp ps_break fun D σ H ⟨Z, ad, s, l, h⟩ => h σ H Z ad s (Ext.refl s) l
theorem ss_cnt : SS Γ X (.Continue pos) fun ρ μ => .ct ρ μ := fun ρ μ => PS.imp ps_continue fun D σ H ⟨Z, ad, s, l, h⟩ => h σ H Z ad s (Ext.refl s) l
theorem ss_pas : SS Γ X (.Pass pos) fun ρ μ => .nx ρ μ := fun ρ μ => PS.imp ps_pass fun D σ H ⟨Z, ad, s, l, h⟩ => h.nxt s l
theorem ss_ex (he : ∀ ρ, SE Γ X ρ e (F ρ)) (hc : compX e = false) : SS Γ X (.Expr e pos) fun ρ μ => (F ρ μ).out fun _ μ => .nx ρ μ := fun ρ μ =>
  PS.imp (ps_expr (he ρ μ) (swaps_of hc)) fun D σ H ⟨Z, ad, s, l, h⟩ => stepS s l h fun x μ1 v H1 Z1 ad1 e s1 l1 x1 r1 h1 => h1.nxt s1 l1
theorem ss_ret (he : ∀ ρ, SE Γ X ρ e (F ρ)) : SS Γ X (.Return (some e) pos) fun ρ μ => (F ρ μ).out fun w μ => .rt w μ := fun ρ μ =>
  PS.imp (ps_ret (he ρ μ)) fun D σ H ⟨Z, ad, s, l, h⟩ => stepS s l h fun x μ1 v H1 Z1 ad1 e s1 l1 x1 r1 h1 => h1 v H1 Z1 ad1 s1 (Ext.refl s1) r1
theorem ss_ret0 : SS Γ X (.Return none pos) fun _ μ => .rt (.t .non) μ := fun ρ μ =>
  PS.imp ps_retN fun D σ H ⟨Z, ad, s, l, h⟩ => h .non H Z ad s (Ext.refl s) (by simp [RepW, Rep])
theorem ss_ife {sa sb : List Stmt} (hc : ∀ ρ, ST Γ X ρ c (FB ρ)) (ha : SSs Γ X sa FS) (hb : SSs Γ X sb GS) : SS Γ X (.If c sa sb pos) fun ρ μ => (FB ρ μ).out fun z μ => match z with
    | true => FS ρ μ
    | false => GS ρ μ := fun ρ μ => by
  refine PS.imp (ps_if (hc ρ μ) (ha ρ ((FB ρ μ).st μ)) (hb ρ ((FB ρ μ).st μ))) fun D σ H ⟨Z, ad, s, l, h⟩ => stepS s l h fun x μ1 v H1 Z1 ad1 e s1 l1 x1 r1 h1 => ?_
  have r1 : x = v := r1
  subst r1
  rw [e, R.st_ok]
  cases x with
  | true => rw [if_pos rfl]; exact ⟨Z1, ad1, s1, l1, h1⟩
  | false => rw [if_neg (by decide)]; exact ⟨Z1, ad1, s1, l1, h1⟩
/-! ### assignments -/
theorem asg_imp {FE : Env → Sto → R W} (h : tSt Γ ρ μ ((FE ρ μ).out fun w μ => (FG w ρ μ).out fun ρ μ => .nx ρ μ) D σ H) : tAsg (tS Γ ρ μ (rpW Γ) (FE ρ μ)) (fun v σ H Q => ∃ w μ1, FE ρ μ = .ok w μ1 ∧ TGo Γ sl w ρ μ1 (FG w ρ μ1) v σ H Q) D σ H := by
  obtain ⟨Z, ad, s, l, h⟩ := h
  exact stepS s l h fun w μ1 v H1 Z1 ad1 e s1 l1 x1 r1 h1 => ⟨w, μ1, e, Z1, ad1, s1, l1, r1, outS_G (ρ' := ρ) s1 h1⟩
theorem ss_asgN {i : Nat} {x : Str} {p' : Pos} (hN : X.N.Nodup) (hi : X.N[i]? = some x) (hx : Loc X.env.scope x) (hf : X.fn x = true ∨ X.env.scope.names.lookup x = some .local) (he : ∀ ρ, SE Γ X ρ e (F ρ)) (hs : swapsWith e (some (.Name x p')) pos.line X.env = pure false) :
    SS Γ X (.Assign [.Name x p'] e pos) fun ρ μ => (F ρ μ).out fun w μ => (if i < ρ.length then R.ok (ρ.set i (some w)) μ else .bad).out fun ρ μ => .nx ρ μ := fun ρ μ => by
  refine PS.imp (ps_set hN hi hx (he ρ μ) hs hf) fun D σ H ⟨Z, ad, s, l, h⟩ => stepS s l h fun w μ1 v H1 Z1 ad1 e s1 l1 x1 r1 h1 => ?_
  by_cases q : i < ρ.length
  · rw [if_pos q] at h1
    exact OutS.nxt s1 (l1.set r1) h1
  · rw [if_neg q] at h1; exact False.elim h1
/-- a comprehension whose result goes into a local name -/
def AS (X : Cx) (e : Expr) (t : TE) : Prop := ∀ (i : Nat) (y : Str) (py pos : Pos), X.N[i]? = some y → X.env.scope.names.lookup y = some .local → swapsWith e (some (.Name y py)) pos.line X.env = pure true → PS X (.Assign [.Name y py] e pos) (tAsg t (gName i))
def SAS (Γ : Tx) (X : Cx) (ρ : Env) (e : Expr) (F : Sto → R W) : Prop := ∀ μ, AS X e (tS Γ ρ μ (rpW Γ) (F μ))
theorem ss_asgC {i : Nat} {x : Str} {p' : Pos} (hi : X.N[i]? = some x) (hx : X.env.scope.names.lookup x = some .local) (he : ∀ ρ, SAS Γ X ρ e (F ρ)) (hs : swapsWith e (some (.Name x p')) pos.line X.env = pure true) :
    SS Γ X (.Assign [.Name x p'] e pos) fun ρ μ => (F ρ μ).out fun w μ => (if i < ρ.length then R.ok (ρ.set i (some w)) μ else .bad).out fun ρ μ => .nx ρ μ := fun ρ μ => by
  refine PS.imp (he ρ μ i x p' pos hi hx hs) fun D σ H ⟨Z, ad, s, l, h⟩ => stepS s l h fun w μ1 v H1 Z1 ad1 e s1 l1 x1 r1 h1 => ?_
  by_cases q : i < ρ.length
  · rw [if_pos q] at h1
    exact OutS.nxt s1 (l1.set r1) h1
  · rw [if_neg q] at h1; exact False.elim h1
theorem ss_asgG (he : ∀ ρ, SE Γ X ρ e (F ρ)) (hg : SGt Γ X sl tg FG) (hs : swapsWithSole [tg] e pos.line X.env = pure false) (hw : swappedStores [tg] e X.env = pure none) (hn : isNm tg = true) :
    SS Γ X (.Assign [tg] e pos) fun ρ μ => (F ρ μ).out fun w μ => (FG w ρ μ).out fun ρ μ => .nx ρ μ := fun ρ μ => by
  have h1 : (assignEach [tg] X.env).map (·.2) = [assign tg X.env] := by cases tg <;> first | rfl | cases hn
  refine PS.imp (ps_asg (he ρ μ) (PG.imp (pg_ex hg) (t' := fun v σ H Q => ∃ w μ1, F ρ μ = .ok w μ1 ∧ TGo Γ sl w ρ μ1 (FG w ρ μ1) v σ H Q) fun v σ H Q ⟨w, μ1, _, q⟩ => ⟨w, ρ, μ1, q⟩) hs hw h1) fun D σ H h => asg_imp h
theorem Slo.unset (l : Slo Γ Z ad ρ σ H) : ∀ vs : List Nat, Slo Γ Z ad (unset ρ vs) σ H
  | [] => l
  | v :: vs => by
    have ih := Slo.unset l vs
    refine ⟨by show ((Sy.unset ρ vs).set v none).length = _; rw [List.length_set]; exact ih.len, fun i w h => ?_⟩
    have h : ((Sy.unset ρ vs).set v none)[i]? = some (some w) := h
    by_cases hv : v = i
    · subst hv
      by_cases hl : v < (Sy.unset ρ vs).length
      · rw [List.getElem?_set_self hl] at h; cases h
      · rw [List.getElem?_eq_none (by rw [List.length_set]; omega)] at h; cases h
    · rw [List.getElem?_set_ne hv] at h
      exact ih.sl i w h
/-! ### stores of several at once -/
def parF (FL : Env → Sto → R (List W)) (FGs : List W → Env → Sto → R Env) (ρ : Env) (μ : Sto) : O := (FL ρ μ).out fun ws μ => (FGs ws ρ μ).out fun ρ μ => .nx ρ μ
theorem repWs_mem {S : Hp} : ∀ {ws : List W} {vs : List V}, RepWs Γ Z ad S ws vs → ws.length = vs.length := fun h => h.length
theorem ss_parG {ts : List Expr} {k k2 : Nat} {p2 : Pos} {FGs : List W → Env → Sto → R Env} (hc : X.calm = true) (hl : ∀ ρ, SA Γ X ρ es (FL ρ)) (hg : SGts Γ X sl ts FGs) (hn : nosX ts = true) (hln : es.length = ts.length) (hsz : es.length ≤ sizeLine)
    (hlen : ∀ ρ μ ws μ', FL ρ μ = .ok ws μ' → ws.length = es.length)
    (hs : swapsWithSole [.Tuple ts k tpos] (.Tuple es k2 p2) pos.line X.env = pure false) (hw : swappedStores [.Tuple ts k tpos] (.Tuple es k2 p2) X.env = pure none) :
    SS Γ X (.Assign [.Tuple ts k tpos] (.Tuple es k2 p2) pos) (parF FL FGs) := fun ρ μ => by
  obtain ⟨e1, e2⟩ := each_of (env := X.env) hn
  have hgs : PGs X ts fun v σ H Q => ∃ ws μ1, FL ρ μ = .ok ws μ1 ∧ ∃ Z ad, Ste Γ Z ad μ1 H ∧ Slo Γ Z ad ρ σ H ∧ RepWs Γ Z ad (strip H) ws v ∧ Out Γ (rpG' Γ σ sl) Z ad H (FGs ws ρ μ1) Q :=
    ⟨fun pins s σ H vs us Q I r ⟨ws, μ1, _, q⟩ => (hg ws ρ μ1).run pins s σ H vs us Q I r q⟩
  refine PS.imp (ps_asg (pe_tup (hl ρ μ)) (pg_tup hc hgs e1 e2) hs hw) fun D σ H ⟨Z, ad, s, l, h⟩ => stepS s l h fun ws μ1 vs H1 Z1 ad1 e s1 l1 x1 r1 h1 => ?_
  have hv : vs.length = es.length := by rw [← hlen _ _ _ _ e]; exact r1.length.symm
  refine ⟨by rw [hv]; exact hsz, fun q hq => ?_⟩
  obtain ⟨s2, x2⟩ := s1.waste (o := .tup vs) hq trivial
  exact ⟨q, vs, rfl, .inl (.inl upd_same), by rw [hv, hln], ws, μ1, e, Z1, ad1, s2, l1.ext x2, x2.repWs r1, outS_G (ρ' := ρ) s2 (h1.ext x2)⟩
theorem ss_par2 {i j : Nat} {x y : Str} {px py pt : Pos} {kt k2 : Nat} {pt2 : Pos} (hc : X.calm = true) (hN : X.N.Nodup) (hi : X.N[i]? = some x) (hj : X.N[j]? = some y) (hij : i ≠ j)
    (hx : X.env.scope.names.lookup x = some .local) (hy : X.env.scope.names.lookup y = some .local) (hl : ∀ ρ, SA Γ X ρ [a, b] (FL ρ))
    (hw : swappedStores [.Tuple [.Name x px, .Name y py] kt pt] (.Tuple [a, b] k2 pt2) X.env = pure (some [x, y]))
    (hs : swapsWithSole [.Tuple [.Name x px, .Name y py] kt pt] (.Tuple [a, b] k2 pt2) pos.line X.env = pure false) :
    SS Γ X (.Assign [.Tuple [.Name x px, .Name y py] kt pt] (.Tuple [a, b] k2 pt2) pos) (parF FL fun ws ρ μ => match ws with
      | [w, w'] => if i < ρ.length ∧ j < ρ.length then .ok ((ρ.set i (some w)).set j (some w')) μ else .bad
      | _ => .bad) := fun ρ μ => by
  refine PS.imp (ps_par hc hN hi hj hij hx hy (hl ρ μ) hw hs) fun D σ H ⟨Z, ad, s, l, h⟩ => stepS s l h fun ws μ1 vs H1 Z1 ad1 e s1 l1 x1 r1 h1 => ?_
  dsimp only at h1
  split at h1
  · rename_i w w'
    obtain ⟨v, r, rfl, q1, q2⟩ := r1
    obtain ⟨v', r', rfl, q3, q4⟩ := q2
    have q4 : r' = [] := q4
    subst q4
    by_cases q : i < ρ.length ∧ j < ρ.length
    · rw [if_pos q] at h1
      exact ⟨v, v', rfl, OutS.nxt s1 ((l1.set q1).set q3) h1⟩
    · rw [if_neg q] at h1; exact False.elim h1
  · exact False.elim h1
/-! ### attributes, append -/
theorem outS_toT {w : W} {v : V} {f : T → Sto → O} (s : Ste Γ Z ad μ H) (r : RepW Γ Z ad (strip H) w v) (h : OutS Γ Z ad H ((toT w μ).out f) D) :
    ∃ t μ' Z', Ste Γ Z' ad μ' H ∧ Ext Z ad H Z' ad H ∧ Rep Γ Z' (strip H) t v ∧ OutS Γ Z' ad H (f t μ') D := by
  cases e : toT w μ with
  | ok ts μ' =>
    rw [e] at h
    obtain ⟨Z', s', x, r'⟩ := toT_ok s r e
    exact ⟨ts, μ', Z', s', x, r', OutS.ext (o := f ts μ') h x⟩
  | exc _ _ => rw [e] at h; exact False.elim h
  | bad => rw [e] at h; exact False.elim h
theorem setC_okS {n : Nat} {c' : Cell} {f : Unit → Sto → O} (s : Ste Γ Z ad μ H) {a : Addr} {en : En} (h1 : ad[n]? = some a) (h2 : μ[n]? = some en) (h : OutS Γ Z ad H ((setC n c' μ).out f) D) :
    ∃ o1, H a = some o1 ∧ COb Γ Z (strip H) en.c o1 ∧ (∀ o, COb Γ Z (strip H) c' o → ∃ μ', Ste Γ Z ad μ' (upd H a o) ∧ Ext Z ad H Z ad (upd H a o) ∧ OutS Γ Z ad (upd H a o) (f () μ') D) := by
  unfold setC at h
  rw [h2] at h
  simp only at h
  split at h
  · rename_i hl hf
    obtain ⟨o1, e1, e2⟩ := s.at_ h1 h2 hl hf
    refine ⟨o1, e1, e2, fun o ho => ?_⟩
    obtain ⟨s1, x1⟩ := s.write h1 h2 hl hf ho
    exact ⟨_, s1, x1, OutS.ext (o := f () _) h x1⟩
  · exact False.elim h
theorem outS_if {p : Prop} [Decidable p] {o : O} (h : OutS Γ Z ad H (if p then o else .bad) D) : p ∧ OutS Γ Z ad H o D := by
  by_cases q : p
  · rw [if_pos q] at h; exact ⟨q, h⟩
  · rw [if_neg q] at h; exact False.elim h
theorem lstC_of {w : W} {v : V} (s : Ste Γ Z ad μ H) (r : RepW Γ Z ad (strip H) w v) (h : isLstC w μ = true) : ∃ a vs, v = .ref a ∧ SqL Γ.K H a vs := by
  unfold isLstC at h
  split at h
  · rename_i n xs e
    obtain ⟨rfl, en, h1, h2⟩ := cell_of e
    obtain ⟨a, h3, rfl⟩ := r
    obtain ⟨o, h4, h5⟩ := (s.cel n a en h3 h1).ob
    rw [h2] at h5
    obtain ⟨vs, rfl, _⟩ := h5
    exact ⟨a, vs, rfl, sqL_of h4⟩
  · cases h
theorem ss_app {apos cpos : Pos} (hK : X.K = Γ.K) (ha : ∀ ρ, SE Γ X ρ a (F ρ)) (hb : ∀ ρ, SE Γ X ρ b (G ρ)) (hbase : baseX a = true) (hp : plainX b = true) (hline : (apos.endLine == cpos.line) = true) :
    SS Γ X (.Expr (.Call (.Attribute a "append" apos) [b] [] cpos) pos) fun ρ μ => (F ρ μ).out fun x μ => if isLstC x μ = true then (G ρ μ).out fun w μ => (toT w μ).out fun v μ => match cellOf x μ with
    | some (n, .lst xs) => if xs.length < sizeLine then (setC n (.lst (xs ++ [v])) μ).out fun _ μ => .nx ρ μ else .bad
    | _ => .bad
    else .bad := fun ρ μ => by
  have few : ((backTo cpos (starEach [b] X.env)).all (fun x => !x.1) && (backToKw cpos (keywordEach [] X.env)).all (fun x => x.1.isSome)
      && decide ([b].length + ([] : List Keyword).length + (if ([] : List Keyword).isEmpty then 0 else 1) < 30)) = true := by
    rw [star_of hp]; rfl
  refine PS.imp (ps_expr (pe_bm PySem.F.plainAttrs_list PySem.F.slot_list_append PySem.F.type_list_append mt_append (ha ρ μ) (pa_cons (hb ρ ((F ρ μ).st μ)) pa_nil (star_of hp)) (base_of hbase) few hline (star_of hp) rfl) rfl) fun D σ H ⟨Z, ad, s, l, h⟩ => stepS s l h fun x μ1 v H1 Z1 ad1 e s1 l1 x1 r1 h1 => ?_
  obtain ⟨hls, h1⟩ := outS_if h1
  obtain ⟨q, vs, rfl, hq⟩ := lstC_of s1 r1 hls
  rw [e, R.st_ok]
  refine ⟨.inl ⟨rfl, vs, hK ▸ hq⟩, stepS s1 l1 h1 fun w μ2 y H2 Z2 ad2 e2 s2 l2 x2 r2 h2 => ?_⟩
  obtain ⟨t, μ3, Z3, s3, x3, r3, h3⟩ := outS_toT s2 r2 h2
  have r1' := x3.repW (x2.repW r1)
  split at h3
  · rename_i n xs hce
    obtain ⟨rfl, en, hen, hec⟩ := cell_of hce
    obtain ⟨a', ha', e3⟩ := r1'
    cases e3
    obtain ⟨hsz, h3⟩ := outS_if h3
    obtain ⟨o1, q1, q2, q3⟩ := setC_okS s3 ha' hen h3
    rw [hec] at q2
    obtain ⟨vs', rfl, q4⟩ := q2
    obtain ⟨μ', s4, x4, h4⟩ := q3 (.lst (vs' ++ [y])) ⟨_, rfl, q4.append (.cons r3 (reps_nil.mpr rfl))⟩
    exact ⟨q, vs', y, rfl, rfl, q1, by rw [← q4.length]; exact hsz, h4.nxt s4 ((l2.ext x3).ext x4)⟩
  · exact False.elim h3
theorem putF_set : ∀ {fs : List (Str × V)} {p : Nat} {f : Str} {v : V}, (fs.map (·.1)).Nodup → (fs.map (·.1))[p]? = some f → putF f v fs = fs.set p (f, v)
  | [], p, f, v, _, h => by simp at h
  | (g, x) :: fs, 0, f, v, _, h => by
    have h : g = f := by simpa using h
    simp [putF, h]
  | (g, x) :: fs, p + 1, f, v, nd, h => by
    have h : (fs.map (·.1))[p]? = some f := by simpa using h
    have nd : g ∉ fs.map (·.1) ∧ (fs.map (·.1)).Nodup := by simpa using nd
    have hne : g ≠ f := fun e => nd.1 (by rw [e]; exact List.mem_of_getElem? h)
    show (if g = f then (g, v) :: fs else (g, x) :: putF f v fs) = _
    rw [if_neg hne, putF_set nd.2 h]
    rfl
theorem putF_new : ∀ {fs : List (Str × V)} {f : Str} {v : V}, f ∉ fs.map (·.1) → putF f v fs = fs ++ [(f, v)]
  | [], f, v, _ => rfl
  | (g, x) :: fs, f, v, h => by
    have h : f ≠ g ∧ f ∉ fs.map (·.1) := by simpa using h
    show (if g = f then (g, v) :: fs else (g, x) :: putF f v fs) = _
    rw [if_neg (Ne.symm h.1), putF_new h.2]
    rfl
theorem set_self {l : List α} {p : Nat} {x : α} (h : l[p]? = some x) : l.set p x = l := by
  apply List.ext_getElem?
  intro i
  by_cases hi : p = i
  · subst hi
    rw [List.getElem?_set_self (List.getElem?_eq_some_iff.mp h).1, h]
  · rw [List.getElem?_set_ne hi]
theorem ss_atr {f : Str} {al : List (Nat × Nat)} {p' : Pos} (hK : X.K = Γ.K) (B : Fct Γ) (A : FctA Γ) (hal : alOk Γ f al = true) (he : ∀ ρ, SE Γ X ρ e (F ρ)) (ha : ∀ ρ, SE Γ X ρ a (G ρ)) (hs : swapsWith e (some (.Attribute a f p')) pos.line X.env = pure false) :
    SS Γ X (.Assign [.Attribute a f p'] e pos) fun ρ μ => (F ρ μ).out fun w μ => (G ρ μ).out fun x μ => (toT w μ).out fun v μ => match cellOf x μ with
    | some (n, .obj c xs) => match al.lookup c with
      | some p => if p < xs.length then (setC n (.obj c (xs.set p v)) μ).out fun _ μ => .nx ρ μ
        else if p = xs.length then (setC n (.obj c (xs ++ [v])) μ).out fun _ μ => .nx ρ μ else .bad
      | none => .bad
    | _ => .bad := fun ρ μ => by
  refine PS.imp (ps_fld (ha ρ ((F ρ μ).st μ)) (he ρ μ) hs) fun D σ H ⟨Z, ad, s, l, h⟩ => stepS s l h fun w μ1 y H1 Z1 ad1 e s1 l1 x1 r1 h1 => ?_
  rw [e, R.st_ok]
  refine stepS s1 l1 h1 fun x μ2 u H2 Z2 ad2 e2 s2 l2 x2 r2 h2 => ?_
  obtain ⟨t, μ3, Z3, s3, x3, r3, h3⟩ := outS_toT s2 (x2.repW r1) h2
  have r2' := x3.repW r2
  split at h3
  · rename_i n c xs hce
    obtain ⟨rfl, en, hen, hec⟩ := cell_of hce
    obtain ⟨q, hq, rfl⟩ := r2'
    split at h3
    · rename_i p hp
      obtain ⟨hc, hat⟩ := al_of hal hp
      have hf := List.mem_of_getElem? hat
      by_cases c1 : p < xs.length
      · rw [if_pos c1] at h3
        obtain ⟨o1, q1, q2, q3⟩ := setC_okS s3 hq hen h3
        rw [hec] at q2
        obtain ⟨_, dx, fs, rfl, q5, q4⟩ := q2
        have hl : fs.length = xs.length := by
          have := q4.length
          rw [List.length_map] at this
          exact this.symm
        have nd : (fs.map (·.1)).Nodup := by rw [q5]; exact (A.nd c hc).sublist (List.take_sublist ..)
        have at_ : (fs.map (·.1))[p]? = some f := by rw [q5, List.getElem?_take_of_lt c1]; exact hat
        obtain ⟨μ', s4, x4, h4⟩ := q3 (.ins (Γ.C c) dx (putF f y fs)) ⟨hc, dx, _, rfl, by
          rw [putF_set nd at_, List.map_set, List.length_set, ← q5]
          exact set_self at_, by
          rw [putF_set nd at_, List.map_set]
          exact reps_set q4 r3⟩
        refine ⟨q, Γ.C c, dx, fs, rfl, q1, hK ▸ B.cls c hc, hK ▸ A.na c hc f hf, ?_, h4.nxt s4 ((l2.ext x3).ext x4)⟩
        have := congrArg List.length q5
        rw [List.length_map, List.length_take] at this
        have := A.few c hc
        omega
      · rw [if_neg c1] at h3
        obtain ⟨c2, h3⟩ := outS_if h3
        obtain ⟨o1, q1, q2, q3⟩ := setC_okS s3 hq hen h3
        rw [hec] at q2
        obtain ⟨_, dx, fs, rfl, q5, q4⟩ := q2
        subst c2
        have hl : fs.length = xs.length := by
          have := q4.length
          rw [List.length_map] at this
          exact this.symm
        have hlt : xs.length < (Γ.at_ c).length := (List.getElem?_eq_some_iff.mp hat).1
        have hn : f ∉ fs.map (·.1) := by
          rw [q5]
          intro hm
          obtain ⟨i, hi, ei⟩ := List.getElem_of_mem hm
          rw [List.length_take] at hi
          rw [List.getElem_take] at ei
          have e1 : (Γ.at_ c)[i]? = some f := by rw [List.getElem?_eq_getElem (by omega), ei]
          have := (List.getElem_inj (h₀ := (List.getElem?_eq_some_iff.mp e1).1) (h₁ := hlt) (A.nd c hc)).mp (by
            rw [ei]
            exact (List.getElem?_eq_some_iff.mp hat).2.symm)
          omega
        obtain ⟨μ', s4, x4, h4⟩ := q3 (.ins (Γ.C c) dx (putF f y fs)) ⟨hc, dx, _, rfl, by
          rw [putF_new hn, List.map_append, q5, List.length_append]
          show _ = (Γ.at_ c).take (xs.length + 1)
          rw [List.take_succ, hat]
          rfl, by
          rw [putF_new hn, List.map_append]
          exact q4.append (.cons r3 (reps_nil.mpr rfl))⟩
        refine ⟨q, Γ.C c, dx, fs, rfl, q1, hK ▸ B.cls c hc, hK ▸ A.na c hc f hf, ?_, h4.nxt s4 ((l2.ext x3).ext x4)⟩
        have := A.few c hc
        omega
    · exact False.elim h3
  · exact False.elim h3
/-! ### loops -/
def tsEx (Γ : Tx) (F : Env → Sto → O) : TS := fun D σ H => ∃ ρ μ, tSt Γ ρ μ (F ρ μ) D σ H
theorem pss_ex (h : SSs Γ X sts FS) : PSs X sts (tsEx Γ FS) := ⟨fun pins s σ H D I ⟨ρ, μ, q⟩ => (h ρ μ).run pins s σ H D I q⟩
theorem pt_ex (h : ∀ ρ, ST Γ X ρ c (FB ρ)) : PT X c (tEx Γ rpB FB) := ⟨fun pins s σ H Q I ⟨ρ, μ, q⟩ => (h ρ μ).run pins s σ H Q I q⟩
/-- where the body of a loop ends -/
def OutB (Γ : Tx) (Z : Addr → Prop) (ad : List Addr) (H : Hp) (o : O) (D : Ends) (next : Env → Sto → O) (dr : List Nat) : Prop :=
  OutS Γ Z ad H (match o with
    | .nx ρ μ => next (unset ρ dr) μ
    | .ct ρ μ => next (unset ρ dr) μ
    | .bk ρ μ => .nx (unset ρ dr) μ
    | o => o) D
theorem outB_ok {Z0 : Addr → Prop} {ad0 : List Addr} {H0 : Hp} {o : O} {next : Env → Sto → O} {dr : List Nat} (h : OutB Γ Z0 ad0 H0 o D next dr) (x0 : Ext Z0 ad0 H0 Z ad H) {N : L2.St → Hp → Prop}
    (hN : ∀ ρ μ σ' H' Z' ad', Ste Γ Z' ad' μ H' → Ext Z ad H Z' ad' H' → Slo Γ Z' ad' (Sy.unset ρ dr) σ' H' → OutS Γ Z0 ad0 H0 (next (Sy.unset ρ dr) μ) D → N σ' H') :
    OutS Γ Z ad H o { D with nx := N, ct := N, bk := D.nx } := by
  cases o with
  | nx ρ' μ' => exact fun σ' H' Z' ad' s y l => hN ρ' μ' σ' H' Z' ad' s y (l.unset dr) h
  | ct ρ' μ' => exact fun σ' H' Z' ad' s y l => hN ρ' μ' σ' H' Z' ad' s y (l.unset dr) h
  | bk ρ' μ' => exact fun σ' H' Z' ad' s y l => h σ' H' Z' ad' s (x0.trans y) (l.unset dr)
  | rt w μ' => exact fun v H' Z' ad' s y => h v H' Z' ad' s (x0.trans y)
  | ex _ _ => exact h
  | bad => exact h
theorem outS_stepB {r : R α} {f : α → Sto → O} {K : β → Hp → Prop} (h : OutS Γ Z0 ad0 H0 (r.out f) D)
    (k : ∀ a μ1 b H1 Z1 ad1, r = .ok a μ1 → Ste Γ Z1 ad1 μ1 H1 → Ext Z ad H Z1 ad1 H1 → rp Z1 ad1 H1 a b → OutS Γ Z0 ad0 H0 (f a μ1) D → K b H1) : Out Γ rp Z ad H r K := by
  cases r with
  | ok a μ' => exact fun b H' Z' ad' s' x r => k a μ' b H' Z' ad' rfl s' x r h
  | exc _ _ => exact h
  | bad => exact h
theorem ss_whl {dr : List Nat} {fuel : Nat} (hp : PassesOwn (model X.prog X.w) X.A X.env X.xe) (hc : ∀ ρ, ST Γ X ρ c (FB ρ)) (hb : SSs Γ X sts FS) :
    SS Γ X (.While c sts [] pos) fun ρ μ => whlL FB FS dr fuel ρ μ := fun ρ μ => by
  refine PS.imp (ps_while hp (pt_ex hc) (pss_ex hb)) fun D σ H ⟨Z0, ad0, s, l, h⟩ => ?_
  refine ⟨fun m σ' H' => ∃ ρ μ Z ad, Ste Γ Z ad μ H' ∧ Slo Γ Z ad ρ σ' H' ∧ Ext Z0 ad0 H Z ad H' ∧ OutS Γ Z0 ad0 H (whlL FB FS dr m ρ μ) D, ⟨fuel, ρ, μ, Z0, ad0, s, l, Ext.refl s, h⟩, fun m σ' H' ⟨ρ, μ, Z, ad, s, l, x, h⟩ => ?_⟩
  cases m with
  | zero => exact False.elim h
  | succ m =>
    have h : OutS Γ Z0 ad0 H ((FB ρ μ).out fun b μ => match b with
      | false => .nx ρ μ
      | true => match FS ρ μ with
        | .nx ρ μ => whlL FB FS dr m (Sy.unset ρ dr) μ
        | .ct ρ μ => whlL FB FS dr m (Sy.unset ρ dr) μ
        | .bk ρ μ => .nx (Sy.unset ρ dr) μ
        | o => o) D := h
    refine ⟨ρ, μ, Z, ad, s, l, outS_stepB h fun b μ1 b' H1 Z1 ad1 e s1 x1 r1 h1 => ?_⟩
    have r1 : b = b' := r1
    subst r1
    cases b with
    | false => rw [if_neg (by decide)]; exact h1 σ' H1 Z1 ad1 s1 (x.trans x1) (l.ext x1)
    | true =>
      rw [if_pos rfl]
      refine ⟨fun σ2 H2 => ∃ ρ μ Z ad, Ste Γ Z ad μ H2 ∧ Slo Γ Z ad ρ σ2 H2 ∧ Ext Z0 ad0 H Z ad H2 ∧ OutS Γ Z0 ad0 H (whlL FB FS dr m ρ μ) D, fun σ2 H2 q => ⟨m, Nat.lt_succ_self m, q⟩, ρ, μ1, Z1, ad1, s1, l.ext x1, ?_⟩
      exact outB_ok (next := fun ρ μ => whlL FB FS dr m ρ μ) (dr := dr) h1 (x.trans x1) fun ρ2 μ2 σ2 H2 Z2 ad2 s2 x2 l2 h2 => ⟨_, μ2, Z2, ad2, s2, l2, (x.trans x1).trans x2, h2⟩
theorem ss_for {dr : List Nat} {FI : Env → Sto → R (List T)} (hp : PassesOwn (model X.prog X.w) X.A X.env X.xe) (hc : X.calm = true) (hi : ∀ ρ, SI Γ X ρ tg iter (FI ρ)) (hg : SGt Γ X sl tg FG) (hb : SSs Γ X sts FS) (hs : ∀ x, foldedSetIterable iter X.env x = pure x) :
    SS Γ X (.For tg iter sts [] pos) fun ρ μ => (FI ρ μ).out fun xs μ => forL (fun x ρ μ => (FG (.t x) ρ μ).out fun ρ μ => FS ρ μ) dr xs ρ μ := fun ρ μ => by
  refine PS.imp (ps_for hp hc (hi ρ μ) (pg_ex hg) (pss_ex hb) hs) fun D σ H ⟨Z, ad, s, l, h⟩ => stepS s l h fun xs μ1 J H1 Z1 ad1 e s1 l1 x1 r1 h1 => ?_
  refine ⟨fun i m σ' H' => m = xs.length - i ∧ i ≤ xs.length ∧ ∃ ρ μ Z ad, Ste Γ Z ad μ H' ∧ Slo Γ Z ad ρ σ' H' ∧ Ext Z1 ad1 H1 Z ad H' ∧ OutS Γ Z1 ad1 H1 (forL (fun x ρ μ => (FG (.t x) ρ μ).out fun ρ μ => FS ρ μ) dr (xs.drop i) ρ μ) D,
    ⟨xs.length - 0, rfl, Nat.zero_le _, ρ, μ1, Z1, ad1, s1, l1, Ext.refl s1, by rw [List.drop_zero]; exact h1⟩, fun i m σ' H' ⟨hm, hi, ρ, μ, Z, ad, s, l, x, h⟩ => ?_⟩
  obtain ⟨w1, w2, w3⟩ := r1 Z ad μ H' s x.wk
  by_cases hlt : i < xs.length
  · refine .inr ⟨w1 i hlt, fun σ2 H2 => i + 1 ≤ xs.length ∧ ∃ ρ μ Z ad, Ste Γ Z ad μ H2 ∧ Slo Γ Z ad ρ σ2 H2 ∧ Ext Z1 ad1 H1 Z ad H2 ∧ OutS Γ Z1 ad1 H1 (forL (fun x ρ μ => (FG (.t x) ρ μ).out fun ρ μ => FS ρ μ) dr (xs.drop (i + 1)) ρ μ) D,
      fun σ2 H2 q => ⟨m - 1, by omega, by omega, q⟩, fun y H2 hy => ?_⟩
    obtain ⟨Z2, s2, x2, r2⟩ := w3 i xs[i] y H2 (List.getElem?_eq_getElem hlt) hy
    have e1 : xs.drop i = xs[i] :: xs.drop (i + 1) := List.drop_eq_getElem_cons hlt
    rw [e1] at h
    have h : OutB Γ Z1 ad1 H1 ((FG (.t xs[i]) ρ μ).out fun ρ μ => FS ρ μ) D (fun ρ μ => forL (fun x ρ μ => (FG (.t x) ρ μ).out fun ρ μ => FS ρ μ) dr (xs.drop (i + 1)) ρ μ) dr := h
    refine ⟨.t xs[i], ρ, μ, Z2, ad, s2, l.ext x2, r2, ?_⟩
    cases q : FG (.t xs[i]) ρ μ with
    | exc _ _ => rw [q] at h; exact h
    | bad => rw [q] at h; exact h
    | ok ρ3 μ3 =>
      rw [q] at h
      have h : OutB Γ Z1 ad1 H1 (FS ρ3 μ3) D (fun ρ μ => forL (fun x ρ μ => (FG (.t x) ρ μ).out fun ρ μ => FS ρ μ) dr (xs.drop (i + 1)) ρ μ) dr := h
      exact fun σ3 H3 Z3 ad3 s3 x3 r3 => ⟨ρ3, μ3, Z3, ad3, s3, r3.1, outB_ok h ((x.trans x2).trans x3) fun ρ4 μ4 σ4 H4 Z4 ad4 s4 x4 l4 h4 => ⟨hlt, _, μ4, Z4, ad4, s4, l4, ((x.trans x2).trans x3).trans x4, h4⟩⟩
  · have : i = xs.length := by omega
    subst this
    refine .inl ⟨w2, ?_⟩
    rw [List.drop_length] at h
    exact h σ' H' Z ad s x l
/-- a walk over a cell's list -/
structure Live (Γ : Tx) (en : Bool) (a : Addr) (J : L2.It) : Prop where
  go : ∀ i H vs v, SqL Γ.K H a vs → vs[i]? = some v → J.go i H
  stop : ∀ i H vs, SqL Γ.K H a vs → vs.length ≤ i → J.stop i H
  item : ∀ (i : Nat) (x : Sy.T) (Z : Addr → Prop) (ad : List Addr) (μ : Sto) (H H' : Hp) (vs : List V) (v y : V), Ste Γ Z ad μ H → SqL Γ.K H a vs → vs[i]? = some v → Rep Γ Z (strip H) x v → J.yld i H y H' → ∃ Z', Ste Γ Z' ad μ H' ∧ Ext Z ad H Z' ad H' ∧ Rep Γ Z' (strip H') (liveIt en i x) y
theorem live_l {a : Addr} : Live Γ false a (Itl Γ.K a) :=
  ⟨fun i H vs v h1 h2 => ⟨vs, v, h1, h2⟩, fun i H vs h1 h2 => ⟨vs, h1, h2⟩, fun i x Z ad μ H H' vs v y s h1 h2 r hy => by
    obtain ⟨rfl, hy⟩ := hy
    have e := (hy vs h1).symm.trans h2
    cases e
    exact ⟨Z, s, Ext.refl s, r⟩⟩
theorem live_e {a : Addr} : Live Γ true a (Ite Γ.K a) :=
  ⟨fun i H vs v h1 h2 => ⟨vs, v, h1, h2⟩, fun i H vs h1 h2 => ⟨vs, h1, h2⟩, fun i x Z ad μ H H' vs v y s h1 h2 r hy => by
    obtain ⟨q, w, rfl, hn, rfl, hy⟩ := hy
    have e := (hy vs h1).symm.trans h2
    cases e
    exact pair_rep s hn (by simp [Rep]) r⟩
theorem ss_forc {dr : List Nat} {en : Bool} {Jf : Addr → L2.It} (hL : ∀ a, Live Γ en a (Jf a)) (hK : X.K = Γ.K) (hp : PassesOwn (model X.prog X.w) X.A X.env X.xe) (hc : X.calm = true) {fuel : Nat} (hi : ∀ ρ μ, PI X tg iter fun σ H Q => tS Γ ρ μ (rpW Γ) (F ρ μ) σ H fun x H1 => ∃ a vs, x = .ref a ∧ SqL X.K H1 a vs ∧ Q (Jf a) H1)
    (hg : SGt Γ X sl tg FG) (hb : SSs Γ X sts FS) (hs : ∀ x, foldedSetIterable iter X.env x = pure x) :
    SS Γ X (.For tg iter sts [] pos) fun ρ μ => (F ρ μ).out fun w μ => match w with
      | .loc n => forC (fun x ρ μ => (FG (.t x) ρ μ).out fun ρ μ => FS ρ μ) dr en n fuel 0 ρ μ
      | .t _ => .bad := fun ρ μ => by
  refine PS.imp (ps_for hp hc (hi ρ μ) (pg_ex hg) (pss_ex hb) hs) fun D σ H ⟨Z, ad, s, l, h⟩ => stepS s l h fun w μ1 v H1 Z1 ad1 e s1 l1 x1 r1 h1 => ?_
  cases w with
  | t _ => exact False.elim h1
  | loc n =>
    obtain ⟨a, ha, rfl⟩ := r1
    have h1 : OutS Γ Z1 ad1 H1 (forC (fun x ρ μ => (FG (.t x) ρ μ).out fun ρ μ => FS ρ μ) dr en n fuel 0 ρ μ1) D := h1
    -- what stands at the cell
    have cell : ∀ {Z : Addr → Prop} {ad : List Addr} {μ : Sto} {H' : Hp} {xs : List Sy.T}, Ste Γ Z ad μ H' → ad[n]? = some a → lstAt μ n = some xs → ∃ vs, SqL Γ.K H' a vs ∧ Reps Γ Z (strip H') xs vs := fun {Z ad μ H' xs} s ha hx => by
      unfold lstAt at hx
      cases q : μ[n]? with
      | none => rw [q] at hx; cases hx
      | some en =>
        obtain ⟨c, lk, fz⟩ := en
        rw [q] at hx
        cases c with
        | lst ys =>
          cases hx
          obtain ⟨o, ho, hc⟩ := (s.cel n a _ ha q).ob
          obtain ⟨vs, rfl, r⟩ := hc
          exact ⟨vs, sqL_of ho, r⟩
        | dct _ _ => cases hx
        | obj _ _ => cases hx
    have fst : ∃ xs, lstAt μ1 n = some xs := by
      cases fuel with
      | zero => exact False.elim h1
      | succ f =>
        cases q : lstAt μ1 n with
        | some xs => exact ⟨xs, rfl⟩
        | none =>
          unfold forC at h1
          rw [q] at h1
          exact False.elim h1
    obtain ⟨xs0, q0⟩ := fst
    obtain ⟨vs0, hq0, _⟩ := cell s1 ha q0
    have L := hL a
    refine ⟨a, vs0, rfl, hK ▸ hq0, ?_⟩
    refine ⟨fun i m σ' H' => ∃ ρ μ Z ad, Ste Γ Z ad μ H' ∧ Slo Γ Z ad ρ σ' H' ∧ Ext Z1 ad1 H1 Z ad H' ∧ OutS Γ Z1 ad1 H1 (forC (fun x ρ μ => (FG (.t x) ρ μ).out fun ρ μ => FS ρ μ) dr en n m i ρ μ) D,
      ⟨fuel, ρ, μ1, Z1, ad1, s1, l1, Ext.refl s1, h1⟩, fun i m σ' H' ⟨ρ, μ, Z, ad, s, l, x, h⟩ => ?_⟩
    cases m with
    | zero => exact False.elim h
    | succ f =>
      have h : OutS Γ Z1 ad1 H1 (match lstAt μ n with
        | none => .bad
        | some xs => match xs[i]? with
          | none => .nx ρ μ
          | some x => match (FG (.t (liveIt en i x)) ρ μ).out fun ρ μ => FS ρ μ with
            | .nx ρ μ => forC (fun x ρ μ => (FG (.t x) ρ μ).out fun ρ μ => FS ρ μ) dr en n f (i + 1) (Sy.unset ρ dr) μ
            | .ct ρ μ => forC (fun x ρ μ => (FG (.t x) ρ μ).out fun ρ μ => FS ρ μ) dr en n f (i + 1) (Sy.unset ρ dr) μ
            | .bk ρ μ => .nx (Sy.unset ρ dr) μ
            | o => o) D := h
      cases q1 : lstAt μ n with
      | none => rw [q1] at h; exact False.elim h
      | some xs =>
        rw [q1] at h
        obtain ⟨vs, hq, rr⟩ := cell s (x.adr ha) q1
        have h : OutS Γ Z1 ad1 H1 (match xs[i]? with
          | none => .nx ρ μ
          | some x => match (FG (.t (liveIt en i x)) ρ μ).out fun ρ μ => FS ρ μ with
            | .nx ρ μ => forC (fun x ρ μ => (FG (.t x) ρ μ).out fun ρ μ => FS ρ μ) dr en n f (i + 1) (Sy.unset ρ dr) μ
            | .ct ρ μ => forC (fun x ρ μ => (FG (.t x) ρ μ).out fun ρ μ => FS ρ μ) dr en n f (i + 1) (Sy.unset ρ dr) μ
            | .bk ρ μ => .nx (Sy.unset ρ dr) μ
            | o => o) D := h
        cases q2 : xs[i]? with
        | none =>
          rw [q2] at h
          refine .inl ⟨L.stop i H' vs hq ?_, h σ' H' Z ad s x l⟩
          rw [← rr.length]
          exact List.getElem?_eq_none_iff.mp q2
        | some y =>
          rw [q2] at h
          obtain ⟨v, hv, rv⟩ := reps_get rr q2
          refine .inr ⟨L.go i H' vs v hq hv, fun σ2 H2 => ∃ ρ μ Z ad, Ste Γ Z ad μ H2 ∧ Slo Γ Z ad ρ σ2 H2 ∧ Ext Z1 ad1 H1 Z ad H2 ∧ OutS Γ Z1 ad1 H1 (forC (fun x ρ μ => (FG (.t x) ρ μ).out fun ρ μ => FS ρ μ) dr en n f (i + 1) ρ μ) D, fun σ2 H2 q => ⟨f, Nat.lt_succ_self f, q⟩, fun u H2 hu => ?_⟩
          obtain ⟨Z2, s2, x2, r2⟩ := L.item i y Z ad μ H' H2 vs v u s hq hv rv hu
          have h : OutB Γ Z1 ad1 H1 ((FG (.t (liveIt en i y)) ρ μ).out fun ρ μ => FS ρ μ) D (fun ρ μ => forC (fun x ρ μ => (FG (.t x) ρ μ).out fun ρ μ => FS ρ μ) dr en n f (i + 1) ρ μ) dr := h
          refine ⟨.t (liveIt en i y), ρ, μ, Z2, ad, s2, l.ext x2, r2, ?_⟩
          cases q : FG (.t (liveIt en i y)) ρ μ with
          | exc _ _ => rw [q] at h; exact h
          | bad => rw [q] at h; exact h
          | ok ρ3 μ3 =>
            rw [q] at h
            have h : OutB Γ Z1 ad1 H1 (FS ρ3 μ3) D (fun ρ μ => forC (fun x ρ μ => (FG (.t x) ρ μ).out fun ρ μ => FS ρ μ) dr en n f (i + 1) ρ μ) dr := h
            exact fun σ3 H3 Z3 ad3 s3 x3 r3 => ⟨ρ3, μ3, Z3, ad3, s3, r3.1, outB_ok h ((x.trans x2).trans x3) fun ρ4 μ4 σ4 H4 Z4 ad4 s4 x4 l4 h4 => ⟨_, μ4, Z4, ad4, s4, l4, ((x.trans x2).trans x3).trans x4, h4⟩⟩
end
end Sy
end

section
set_option Elab.async false
set_option linter.all false
set_option maxRecDepth 100000
/-! SyR: binding; the promise of a def; calls. -/
namespace Sy
open PySem L2 PyProof.Rows
/-! ### plain binding -/
theorem zip_lookup_isSome {names : List Str} : ∀ {us : List Value} {n : Str}, us.length = names.length → n ∈ names → ((names.zip us).lookup n).isSome = true := by
  induction names with
  | nil => intro us n _ h; cases h
  | cons m names ih =>
    intro us n hl h
    cases us with
    | nil => cases hl
    | cons u us =>
      rw [List.zip_cons_cons, List.lookup_cons]
      by_cases q : (n == m) = true
      · rw [q]; rfl
      · have q : (n == m) = false := by simpa using q
        rw [q]
        refine ih (by simpa using hl) ?_
        rcases List.mem_cons.mp h with e | e
        · rw [e] at q; simp at q
        · exact e
theorem fm_congr {α β : Type} {f g : α → Option β} : ∀ {l : List α}, (∀ n ∈ l, f n = g n) → l.filterMap f = l.filterMap g
  | [], _ => rfl
  | x :: l, h => by
    rw [List.filterMap_cons, List.filterMap_cons, h x List.mem_cons_self, fm_congr fun n hn => h n (List.mem_cons_of_mem _ hn)]
theorem zip_filterMap {names : List Str} : ∀ {us : List Value}, names.Nodup → us.length = names.length → names.filterMap (fun n => ((names.zip us).lookup n).map (n, ·)) = names.zip us := by
  induction names with
  | nil => intro us _ _; rfl
  | cons m names ih =>
    intro us nd hl
    cases us with
    | nil => cases hl
    | cons u us =>
      have nd' := List.nodup_cons.mp nd
      rw [List.zip_cons_cons, List.filterMap_cons]
      have e1 : (((m, u) :: names.zip us).lookup m).map (m, ·) = some (m, u) := by rw [List.lookup_cons_self]; rfl
      have e2 : names.filterMap (fun n => (((m, u) :: names.zip us).lookup n).map (n, ·)) = names.filterMap (fun n => ((names.zip us).lookup n).map (n, ·)) := by
        apply fm_congr
        intro n hn
        have : (n == m) = false := by
          rw [beq_eq_false_iff_ne]
          exact fun e => nd'.1 (e ▸ hn)
        rw [List.lookup_cons, this]
      rw [e1, e2, ih nd'.2 (by simpa using hl)]
theorem bind_plain {fd : FuncData} {us : List Value} {as : List Arg} {ds : List Expr} (hpm : fd.params = ⟨[], as, none, [], [], none, ds⟩) (hd : fd.defaults = .none) (nd : (as.map (·.arg)).Nodup) (hl : us.length = (as.map (·.arg)).length) :
    bindArgs fd ⟨us, []⟩ = pure ((as.map (·.arg)).zip us) := by
  unfold bindArgs
  rw [hpm, hd]
  have em : ((as.map (·.arg)).filter fun n => (((as.map (·.arg)).zip us).lookup n).isNone) = [] := by
    rw [List.filter_eq_nil_iff]
    intro n hn
    have := zip_lookup_isSome hl hn
    cases q : (((as.map (·.arg)).zip us).lookup n) with
    | none => rw [q] at this; cases this
    | some _ => simp
  have eg : ¬ (us.length > (as.map (·.arg)).length) := by omega
  have ez := zip_filterMap nd hl
  have ez' : List.filterMap ((fun n => Option.map (fun x => (n, x)) (List.lookup n ((List.map (fun x => x.arg) as).zip us))) ∘ fun x => x.arg) as = (List.map (fun x => x.arg) as).zip us := by
    rw [← List.filterMap_map]
    exact ez
  have e0 : notAStandIn Value.none = pure () := rfl
  simp only [seqItems?, List.map_nil, List.nil_append, List.append_nil]
  simp [eg, em, hl, e0]
  have em2 : List.filter (fun n => (List.lookup n ((List.map (fun x => x.arg) as).zip us)).isNone) (List.take as.length (List.map (fun x => x.arg) as)) = [] := by
    rw [List.take_of_length_le (by rw [List.length_map]; exact Nat.le_refl _)]
    exact em
  refine (if_neg ?_).trans (by rw [ez'])
  simp only [List.length_map, List.drop_nil, List.length_nil, Nat.sub_zero, em2]
  decide
end Sy
end

section
set_option Elab.async false
set_option linter.all false
set_option maxRecDepth 100000
/-! SgA: a run that never wakes the sleeping generators keeps them (dead twins). -/
namespace Sg
open PySem
open Sem (wp)

def deadK : Resume → Sem PySem.Fin := fun _ => .unsupported "asleep"
def dead : GenState → GenState
  | .suspended _ l c p fs cl => .suspended deadK l c p fs cl
  | x => x
def asleep : GenState → Prop
  | .suspended .. => True
  | _ => False
theorem dead_seen (x : GenState) : (dead x).seen = x.seen := by cases x <;> rfl
theorem no_run0 {M : Model} {Γ : Ctx} {p : Pos} {w : String} {s s' : Shared} {e : End} (h : Runs M Γ p (.unsupported w) [] s e s') : False := by cases h
theorem no_run {M : Model} {Γ : Ctx} {p : Pos} {w : String} {fs : List Frame} {s s' : Shared} {e : End} (h : Runs M Γ p (.unsupported w) fs s e s') : False := by
  cases h with
  | segRet a _ => exact no_run0 a
  | segGen a _ => exact no_run0 a
  | segSuspOut _ a => exact no_run0 a
  | segSuspGen _ a _ _ => exact no_run0 a
/-- no frame of a generator -/
def noGen (fs : List Frame) : Prop := splitAtGen fs = none
/-- every sleeper: none of its frames is a generator's, or it cannot be woken -/
def OkG (G : Array GenState) : Prop := ∀ (i : Nat) k l c p fs cl, G[i]? = some (.suspended k l c p fs cl) → noGen fs ∨ k = deadK
def OkE : End → Prop
  | .ret _ => True
  | .susp _ _ _ _ _ _ fs => noGen fs
abbrev Dm := Nat → Option GenState
def restore (D : Dm) (s : Shared) : Shared := { s with gens := s.gens.mapIdx fun i y => (D i).getD y }
def DOk (D : Dm) (s : Shared) : Prop := ∀ i x, D i = some x → asleep x ∧ s.gens[i]? = some (dead x)
theorem dok_gens {D : Dm} {s s' : Shared} (h : s'.gens = s.gens) (d : DOk D s) : DOk D s' := fun i x e => by rw [h]; exact d i x e
theorem restore_at {D : Dm} {s : Shared} (i : Nat) : (restore D s).gens[i]? = (s.gens[i]?).map fun y => (D i).getD y := by
  show (s.gens.mapIdx _)[i]? = _
  rw [Array.getElem?_mapIdx]
theorem noGen_nil : noGen [] := rfl
theorem noGen_append {a b : List Frame} (ha : noGen a) (hb : noGen b) : noGen (a ++ b) := by
  induction a with
  | nil => exact hb
  | cons f r ih =>
    cases f with
    | gen g k l c p => exact absurd ha (by simp [noGen, splitAtGen])
    | ret k h g l c p kp =>
      have h1 : noGen r := by
        unfold noGen at ha ⊢
        have h2 : (splitAtGen r).map (fun x => (Frame.ret k h g l c p kp :: x.1, x.2)) = none := ha
        cases e : splitAtGen r with
        | none => rfl
        | some y => rw [e] at h2; cases h2
      have h3 := ih h1
      unfold noGen at h3 ⊢
      show (splitAtGen (r ++ b)).map _ = none
      rw [h3]; rfl
theorem noGen_cons_gen {g k l c p} {fs : List Frame} : ¬ noGen (.gen g k l c p :: fs) := by simp [noGen, splitAtGen]
theorem noGen_tail {F : Frame} {fs : List Frame} (h : noGen (F :: fs)) : noGen fs := by
  cases F with
  | gen g k l c p => exact absurd h noGen_cons_gen
  | ret k h' g l c p kp =>
    have h2 : (splitAtGen fs).map (fun x => (Frame.ret k h' g l c p kp :: x.1, x.2)) = none := h
    cases e : splitAtGen fs with
    | none => exact e
    | some y => rw [e] at h2; cases h2
end Sg
end

section
set_option Elab.async false
set_option linter.all false
set_option maxRecDepth 100000
set_option maxHeartbeats 1000000
/-! SgB: the twin of a run. -/
namespace Sg
open PySem
open Sem (wp)

theorem restore_set {D : Dm} {s : Shared} {g : Nat} {x : GenState} (h : D g = none) : restore D (s.setGen g x) = (restore D s).setGen g x := by
  have : (s.gens.setIfInBounds g x).mapIdx (fun i y => (D i).getD y) = (s.gens.mapIdx fun i y => (D i).getD y).setIfInBounds g x := by
    apply Array.ext_getElem?
    intro i
    rw [Array.getElem?_mapIdx]
    by_cases e : g = i
    · subst e
      by_cases hb : g < s.gens.size
      · simp [hb, h]
      · simp [hb]
    · rw [Array.getElem?_setIfInBounds_ne e, Array.getElem?_setIfInBounds_ne e, Array.getElem?_mapIdx]
  exact congrArg (fun G => ({ s with gens := G } : Shared)) this
theorem dok_lt {D : Dm} {s : Shared} (d : DOk D s) {i : Nat} (h : s.gens.size ≤ i) : D i = none := by
  cases e : D i with
  | none => rfl
  | some x =>
    have h2 := (d i x e).2
    rw [Array.getElem?_eq_none h] at h2
    cases h2
theorem restore_push {D : Dm} {s : Shared} {x : GenState} (d : DOk D s) : restore D { s with gens := s.gens.push x } = { restore D s with gens := (restore D s).gens.push x } := by
  have : (s.gens.push x).mapIdx (fun i y => (D i).getD y) = (s.gens.mapIdx fun i y => (D i).getD y).push x := by
    rw [Array.mapIdx_push, dok_lt d (Nat.le_refl _)]
    rfl
  exact congrArg (fun G => ({ s with gens := G } : Shared)) this
theorem restore_size {D : Dm} {s : Shared} : (restore D s).gens.size = s.gens.size := by simp [restore]
theorem dok_set {D : Dm} {s : Shared} {g : Nat} {x : GenState} (d : DOk D s) (h : D g = none) : DOk D (s.setGen g x) := fun i y e => by
  obtain ⟨h1, h2⟩ := d i y e
  refine ⟨h1, ?_⟩
  have ne : g ≠ i := fun z => by rw [z, e] at h; cases h
  show (s.gens.setIfInBounds g x)[i]? = _
  rw [Array.getElem?_setIfInBounds_ne ne]; exact h2
theorem dok_push {D : Dm} {s : Shared} {x : GenState} (d : DOk D s) : DOk D { s with gens := s.gens.push x } := fun i y e => by
  obtain ⟨h1, h2⟩ := d i y e
  refine ⟨h1, ?_⟩
  have hl := (Array.getElem?_eq_some_iff.mp h2).1
  show (s.gens.push x)[i]? = _
  rw [Array.getElem?_push, if_neg (Nat.ne_of_lt hl)]; exact h2
theorem okG_set {G : Array GenState} {g : Nat} {x : GenState} (h : OkG G) (hx : ∀ k l c p fs cl, x = .suspended k l c p fs cl → noGen fs ∨ k = deadK) : OkG (G.setIfInBounds g x) := fun i k l c p fs cl e => by
  by_cases z : g = i
  · subst z
    have hb : g < G.size := by
      have := (Array.getElem?_eq_some_iff.mp e).1
      simpa using this
    rw [show (G.setIfInBounds g x)[g]? = some x by simp [hb]] at e
    exact hx _ _ _ _ _ _ (Option.some.inj e)
  · rw [Array.getElem?_setIfInBounds_ne z] at e
    exact h i _ _ _ _ _ _ e
theorem okG_push {G : Array GenState} {c : Code} (h : OkG G) : OkG (G.push (.fresh c)) := fun i k l c' p fs cl e => by
  rw [Array.getElem?_push] at e
  split at e
  · cases e
  · exact h i _ _ _ _ _ _ e
theorem okE_gs {e : End} (h : OkE e) : ∀ k l c p fs cl, e.genState = .suspended k l c p fs cl → noGen fs ∨ k = deadK := fun k l c p fs cl q => by
  cases e with
  | ret r => cases q
  | susp v g l k c p fs => cases q; exact .inl h
/-- no sleeper that may not be woken stands at g -/
theorem d_none {D : Dm} {s : Shared} {g : Nat} {y : GenState} (d : DOk D s) (h : s.gens[g]? = some y) (hy : ∀ l c p fs cl, y ≠ .suspended deadK l c p fs cl) : D g = none := by
  cases e : D g with
  | none => rfl
  | some x =>
    obtain ⟨h1, h2⟩ := d g x e
    rw [h] at h2
    cases x with
    | suspended k l c p fs cl => exact absurd (Option.some.inj h2) (hy _ _ _ _ _)
    | fresh c => cases h1
    | running => cases h1
    | finished => cases h1
theorem real_at {D : Dm} {s : Shared} {g : Nat} {y : GenState} (h : s.gens[g]? = some y) (hd : D g = none) : (restore D s).gens[g]? = some y := by
  rw [restore_at, h, hd]; rfl
theorem seen_at {D : Dm} {s : Shared} {g : Nat} {y : GenState} (d : DOk D s) (h : s.gens[g]? = some y) : ∃ z, (restore D s).gens[g]? = some z ∧ z.seen = y.seen := by
  cases e : D g with
  | none => exact ⟨y, real_at h e, rfl⟩
  | some x =>
    obtain ⟨h1, h2⟩ := d g x e
    rw [h] at h2
    refine ⟨x, ?_, ?_⟩
    · rw [restore_at, h, e]; rfl
    · rw [Option.some.inj h2, dead_seen]

theorem runs_twin {M : Model} {Γ : Ctx} {p : Pos} {t : Sem PySem.Fin} {fs : List Frame} {s s' : Shared} {e : End} (h : Runs M Γ p t fs s e s') :
    noGen fs → OkG s.gens → OkE e ∧ OkG s'.gens ∧ ∀ D, DOk D s → DOk D s' ∧ Runs M Γ p t fs (restore D s) e (restore D s') := by
  induction h with
  | done => exact fun _ ok => ⟨trivial, ok, fun D d => ⟨d, .done⟩⟩
  | raise => exact fun _ ok => ⟨trivial, ok, fun D d => ⟨d, .raise⟩⟩
  | again q _ ih => exact fun n ok => let ⟨a, b, c⟩ := ih n ok; ⟨a, b, fun D d => let ⟨x, y⟩ := c D d; ⟨x, .again q y⟩⟩
  | rule _ ih => exact fun n ok => let ⟨a, b, c⟩ := ih n ok; ⟨a, b, fun D d => let ⟨x, y⟩ := c D d; ⟨x, .rule y⟩⟩
  | «at» _ ih => exact fun n ok => let ⟨a, b, c⟩ := ih n ok; ⟨a, b, fun D d => let ⟨x, y⟩ := c D d; ⟨x, .at y⟩⟩
  | load q _ ih => exact fun n ok => let ⟨a, b, c⟩ := ih n ok; ⟨a, b, fun D d => let ⟨x, y⟩ := c D d; ⟨x, .load q y⟩⟩
  | update q _ ih => exact fun n ok => let ⟨a, b, c⟩ := ih n ok; ⟨a, b, fun D d => let ⟨x, y⟩ := c D (dok_gens rfl d); ⟨x, .update q y⟩⟩
  | loadIfAlive _ ih => exact fun n ok => let ⟨a, b, c⟩ := ih n ok; ⟨a, b, fun D d => let ⟨x, y⟩ := c D d; ⟨x, .loadIfAlive y⟩⟩
  | point _ ih => exact fun n ok => let ⟨a, b, c⟩ := ih n ok; ⟨a, b, fun D d => let ⟨x, y⟩ := c D d; ⟨x, .point y⟩⟩
  | alloc _ ih => exact fun n ok => let ⟨a, b, c⟩ := ih n ok; ⟨a, b, fun D d => let ⟨x, y⟩ := c D (dok_gens rfl d); ⟨x, .alloc y⟩⟩
  | fresh _ ih => exact fun n ok => let ⟨a, b, c⟩ := ih n ok; ⟨a, b, fun D d => let ⟨x, y⟩ := c D (dok_gens rfl d); ⟨x, .fresh y⟩⟩
  | ask _ ih => exact fun n ok => let ⟨a, b, c⟩ := ih n ok; ⟨a, b, fun D d => let ⟨x, y⟩ := c D d; ⟨x, .ask y⟩⟩
  | choose q _ ih => exact fun n ok => let ⟨a, b, c⟩ := ih n ok; ⟨a, b, fun D d => let ⟨x, y⟩ := c D (dok_gens rfl d); ⟨x, .choose q y⟩⟩
  | os _ ih => exact fun n ok => let ⟨a, b, c⟩ := ih n ok; ⟨a, b, fun D d => let ⟨x, y⟩ := c D (dok_gens rfl d); ⟨x, .os y⟩⟩
  | handled _ ih => exact fun n ok => let ⟨a, b, c⟩ := ih n ok; ⟨a, b, fun D d => let ⟨x, y⟩ := c D d; ⟨x, .handled y⟩⟩
  | genState q _ ih =>
    refine fun n ok => let ⟨a, b, c⟩ := ih n ok; ⟨a, b, fun D d => let ⟨x, y⟩ := c D d; ⟨x, ?_⟩⟩
    obtain ⟨z, hz, es⟩ := seen_at d q
    exact .genState hz (by rw [es]; exact y)
  | stack _ ih => exact fun n ok => let ⟨a, b, c⟩ := ih n ok; ⟨a, b, fun D d => let ⟨x, y⟩ := c D d; ⟨x, .stack y⟩⟩
  | thread _ ih => exact fun n ok => let ⟨a, b, c⟩ := ih n ok; ⟨a, b, fun D d => let ⟨x, y⟩ := c D d; ⟨x, .thread y⟩⟩
  | newGen _ ih =>
    refine fun n ok => let ⟨a, b, c⟩ := ih n (okG_push ok); ⟨a, b, fun D d => let ⟨x, y⟩ := c D (dok_push d); ⟨x, ?_⟩⟩
    rw [restore_push d] at y
    exact .newGen (by rw [restore_size]; exact y)
  | call _ _ ih1 ih2 =>
    refine fun n ok => ?_
    obtain ⟨a1, b1, c1⟩ := ih1 noGen_nil ok
    obtain ⟨a2, b2, c2⟩ := ih2 n b1
    exact ⟨a2, b2, fun D d => let ⟨x1, y1⟩ := c1 D d; let ⟨x2, y2⟩ := c2 D x1; ⟨x2, .call y1 y2⟩⟩
  | callSusp _ ih =>
    refine fun n ok => ?_
    obtain ⟨a1, b1, c1⟩ := ih noGen_nil ok
    exact ⟨noGen_append a1 rfl, b1, fun D d => let ⟨x1, y1⟩ := c1 D d; ⟨x1, .callSusp y1⟩⟩
  | yield => exact fun _ ok => ⟨noGen_nil, ok, fun D d => ⟨d, .yield⟩⟩
  | resumeFresh q _ eq _ ih1 ih2 =>
    refine fun n ok => ?_
    obtain ⟨a1, b1, c1⟩ := ih1 noGen_nil (okG_set ok fun _ _ _ _ _ _ z => by cases z)
    obtain ⟨a2, b2, c2⟩ := ih2 n (okG_set b1 (okE_gs a1))
    refine ⟨a2, b2, fun D d => ?_⟩
    have hd := d_none d q fun _ _ _ _ _ z => by cases z
    obtain ⟨x1, y1⟩ := c1 D (dok_set d hd)
    obtain ⟨x2, y2⟩ := c2 D (dok_set x1 hd)
    rw [restore_set hd] at y1 y2
    exact ⟨x2, .resumeFresh (real_at q hd) y1 eq y2⟩
  | @resumeSuspended Γ p g r l k s k₀ l₀ c₀ p₀ fs cl e₁ s₁ e s' q hr eq _ ih1 ih2 =>
    refine fun n ok => ?_
    have hk : k₀ ≠ deadK := fun z => by rw [z] at hr; exact no_run hr
    obtain ⟨a1, b1, c1⟩ := ih1 ((ok _ _ _ _ _ _ _ q).resolve_right hk) (okG_set ok fun _ _ _ _ _ _ z => by cases z)
    obtain ⟨a2, b2, c2⟩ := ih2 n (okG_set b1 (okE_gs a1))
    refine ⟨a2, b2, fun D d => ?_⟩
    have hd := d_none d q fun _ _ _ _ _ z => by cases z; exact hk rfl
    obtain ⟨x1, y1⟩ := c1 D (dok_set d hd)
    obtain ⟨x2, y2⟩ := c2 D (dok_set x1 hd)
    rw [restore_set hd] at y1 y2
    exact ⟨x2, .resumeSuspended (real_at q hd) y1 eq y2⟩
  | resumeJustStarted q hv _ ih =>
    refine fun n ok => let ⟨a, b, c⟩ := ih n ok; ⟨a, b, fun D d => let ⟨x, y⟩ := c D d; ⟨x, ?_⟩⟩
    exact .resumeJustStarted (real_at q (d_none d q fun _ _ _ _ _ z => by cases z)) hv y
  | resumeThrowFresh q _ ih =>
    refine fun n ok => ?_
    obtain ⟨a, b, c⟩ := ih n (okG_set ok fun _ _ _ _ _ _ z => by cases z)
    refine ⟨a, b, fun D d => ?_⟩
    have hd := d_none d q fun _ _ _ _ _ z => by cases z
    obtain ⟨x, y⟩ := c D (dok_set d hd)
    rw [restore_set hd] at y
    exact ⟨x, .resumeThrowFresh (real_at q hd) y⟩
  | resumeRunning q _ ih =>
    refine fun n ok => let ⟨a, b, c⟩ := ih n ok; ⟨a, b, fun D d => let ⟨x, y⟩ := c D d; ⟨x, ?_⟩⟩
    exact .resumeRunning (real_at q (d_none d q fun _ _ _ _ _ z => by cases z)) y
  | resumeFinished q _ ih =>
    refine fun n ok => let ⟨a, b, c⟩ := ih n ok; ⟨a, b, fun D d => let ⟨x, y⟩ := c D d; ⟨x, ?_⟩⟩
    exact .resumeFinished (real_at q (d_none d q fun _ _ _ _ _ z => by cases z)) y
  | segRet _ _ ih1 ih2 =>
    refine fun n ok => ?_
    obtain ⟨a1, b1, c1⟩ := ih1 noGen_nil ok
    obtain ⟨a2, b2, c2⟩ := ih2 (noGen_tail n) b1
    exact ⟨a2, b2, fun D d => let ⟨x1, y1⟩ := c1 D d; let ⟨x2, y2⟩ := c2 D x1; ⟨x2, .segRet y1 y2⟩⟩
  | segGen _ _ _ _ => exact fun n _ => absurd n noGen_cons_gen
  | segSuspOut hs _ ih =>
    refine fun n ok => ?_
    obtain ⟨a1, b1, c1⟩ := ih noGen_nil ok
    exact ⟨noGen_append a1 n, b1, fun D d => let ⟨x1, y1⟩ := c1 D d; ⟨x1, .segSuspOut hs y1⟩⟩
  | segSuspGen hs _ _ _ _ _ => exact fun n _ => by unfold noGen at n; rw [hs] at n; cases n
end Sg
end

section
set_option Elab.async false
set_option linter.all false
set_option maxRecDepth 100000
set_option maxHeartbeats 1000000
/-! SgC: sleeping generators are kept by what is run beside them. -/
namespace Sg
open PySem PyProof.Rows
open Sem (wp)

theorem wakes_twin {M : Model} {Γ : Ctx} {p : Pos} {g : Nat} {r : Resume} {s s' : Shared} {res : GenResult} (h : Wakes M Γ p g r s res s') (ok : OkG s.gens) {D : Dm} (d : DOk D s) :
    OkG s'.gens ∧ DOk D s' ∧ Wakes M Γ p g r (restore D s) res (restore D s') := by
  unfold Wakes at h
  cases q : s.gens[g]? with
  | none => rw [q] at h; exact h.elim
  | some y =>
    rw [q] at h
    cases y with
    | fresh c =>
      have hd := d_none d q fun _ _ _ _ _ z => by cases z
      have hr := real_at q hd
      cases r with
      | send v =>
        by_cases hv : v = .none
        · subst hv
          obtain ⟨e₁, s₁, hrun, hq, hres, rfl⟩ := h
          obtain ⟨a1, b1, c1⟩ := runs_twin hrun noGen_nil (okG_set ok fun _ _ _ _ _ _ z => by cases z)
          obtain ⟨x1, y1⟩ := c1 D (dok_set d hd)
          rw [restore_set hd] at y1
          refine ⟨okG_set b1 (okE_gs a1), dok_set x1 hd, ?_⟩
          unfold Wakes
          rw [hr]
          exact ⟨e₁, _, y1, hq, hres, restore_set hd⟩
        · have h' : res = .justStarted ∧ s' = s := by
            cases v <;> first | exact absurd rfl hv | exact h
          obtain ⟨rfl, rfl⟩ := h'
          refine ⟨ok, d, ?_⟩
          unfold Wakes
          rw [hr]
          cases v <;> first | exact absurd rfl hv | exact ⟨rfl, rfl⟩
      | throw x =>
        obtain ⟨rfl, rfl⟩ := h
        refine ⟨okG_set ok (fun _ _ _ _ _ _ z => by cases z), dok_set d hd, ?_⟩
        unfold Wakes
        rw [hr]
        exact ⟨rfl, restore_set hd⟩
    | suspended k l c p0 fs cl =>
      obtain ⟨e₁, s₁, hrun, hq, hres, rfl⟩ := h
      have hk : k ≠ deadK := fun z => by rw [z] at hrun; exact no_run hrun
      have hd := d_none d q fun _ _ _ _ _ z => by cases z; exact hk rfl
      obtain ⟨a1, b1, c1⟩ := runs_twin hrun ((ok _ _ _ _ _ _ _ q).resolve_right hk) (okG_set ok fun _ _ _ _ _ _ z => by cases z)
      obtain ⟨x1, y1⟩ := c1 D (dok_set d hd)
      rw [restore_set hd] at y1
      refine ⟨okG_set b1 (okE_gs a1), dok_set x1 hd, ?_⟩
      unfold Wakes
      rw [real_at q hd]
      exact ⟨e₁, _, y1, hq, hres, restore_set hd⟩
    | running =>
      obtain ⟨rfl, rfl⟩ := h
      refine ⟨ok, d, ?_⟩
      unfold Wakes
      rw [real_at q (d_none d q fun _ _ _ _ _ z => by cases z)]
      exact ⟨rfl, rfl⟩
    | finished =>
      obtain ⟨rfl, rfl⟩ := h
      refine ⟨ok, d, ?_⟩
      unfold Wakes
      rw [real_at q (d_none d q fun _ _ _ _ _ z => by cases z)]
      exact ⟨rfl, rfl⟩

def Tw {α : Type} (D : Dm) (Q : α → Pos → Shared → Prop) : α → Pos → Shared → Prop := fun a p' s' => ∃ s0, Q a p' s0 ∧ OkG s0.gens ∧ DOk D s0 ∧ s' = restore D s0
theorem wp_twin {α : Type} (M : Model) (Γ : Ctx) (D : Dm) (t : Sem α) : ∀ (Q : α → Pos → Shared → Prop) (E : Value → Pos → Shared → Prop) (p : Pos) (s : Shared), OkG s.gens → DOk D s → wp M Γ t Q E p s →
    wp M Γ t (Tw D Q) (Tw D E) p (restore D s) := by
  induction t with
  | pure a => intro Q E p s ok d h; exact ⟨s, h, ok, d, rfl⟩
  | raise e => intro Q E p s ok d h; exact ⟨s, h, ok, d, rfl⟩
  | unsupported _ => intro Q E p s _ _ h; exact h
  | finish _ => intro Q E p s _ _ h; exact h
  | rule _ k ih => intro Q E p s ok d h; exact ih () Q E p s ok d h
  | «at» p' k ih => intro Q E p s ok d h; exact ih () Q E p' s ok d h
  | load a _ k ih => intro Q E p s ok d h; obtain ⟨o, ho, h⟩ := h; exact ⟨o, ho, ih o Q E p s ok d h⟩
  | update a _ f k ih => intro Q E p s ok d h; exact ⟨h.1, ih () Q E p { s with heap := s.heap.update a f } ok (dok_gens (s := s) rfl d) h.2⟩
  | loadIfAlive a k ih => intro Q E p s ok d h; exact ih _ Q E p s ok d h
  | point _ k ih => intro Q E p s ok d h; exact ih () Q E p s ok d h
  | register _ _ => intro Q E p s _ _ h; exact h
  | alloc o k ih => intro Q E p s ok d h; exact ih s.heap.objs.size Q E p { s with heap := s.heap.push o } ok (dok_gens (s := s) rfl d) h
  | fresh k ih => intro Q E p s ok d h; exact ih s.toks Q E p { s with toks := s.toks + 1 } ok (dok_gens (s := s) rfl d) h
  | ask k ih => intro Q E p s ok d h; exact ih _ Q E p s ok d h
  | choose src m k ih => intro Q E p s ok d h; exact ⟨h.1, ih (M.w.draws src (s.drawn.get src) % m) Q E p { s with drawn := s.drawn.bump src } ok (dok_gens (s := s) rfl d) h.2⟩
  | os q _ k ih => intro Q E p s ok d h; exact ih (Os.step s.os q).2 Q E p { s with os := (Os.step s.os q).1 } ok (dok_gens (s := s) rfl d) h
  | call c hd _ _ k ih =>
    intro Q E p s ok d h
    obtain ⟨r, s', hr, h⟩ := h
    obtain ⟨_, b1, c1⟩ := runs_twin hr noGen_nil ok
    obtain ⟨x1, y1⟩ := c1 D d
    exact ⟨r, _, y1, ih r Q E p s' b1 x1 h⟩
  | handled own k ih => intro Q E p s ok d h; exact ih _ Q E p s ok d h
  | genState g k ih =>
    intro Q E p s ok d h
    obtain ⟨st, hs, h⟩ := h
    obtain ⟨z, hz, es⟩ := seen_at d hs
    exact ⟨z, hz, by rw [es]; exact ih _ Q E p s ok d h⟩
  | newGen c k ih =>
    intro Q E p s ok d h
    have h2 := ih _ Q E p _ (okG_push ok) (dok_push d) h
    rw [restore_push d] at h2
    show wp M Γ (k (restore D s).gens.size) _ _ p { restore D s with gens := (restore D s).gens.push (.fresh c) }
    rw [restore_size]
    exact h2
  | resume g r _ k ih =>
    intro Q E p s ok d h
    obtain ⟨res, s', hw, h⟩ := h
    obtain ⟨b1, x1, y1⟩ := wakes_twin hw ok d
    exact ⟨res, _, y1, ih res Q E p s' b1 x1 h⟩
  | yield _ _ _ _ => intro Q E p s _ _ h; exact h
  | stack k ih => intro Q E p s ok d h; exact ih _ Q E p s ok d h
  | fork _ _ => intro Q E p s _ _ h; exact h
  | thread k ih => intro Q E p s ok d h; exact ih _ Q E p s ok d h
  | await _ _ _ _ _ => intro Q E p s _ _ h; exact h

/-- all sleepers lulled -/
def lull (s : Shared) : Shared := { s with gens := s.gens.map dead }
def dOf (s : Shared) : Dm := fun i => match s.gens[i]? with
  | some (.suspended k l c p fs cl) => some (.suspended k l c p fs cl)
  | _ => none
theorem dOf_some {s : Shared} {i : Nat} {x : GenState} (h : dOf s i = some x) : s.gens[i]? = some x ∧ asleep x := by
  unfold dOf at h
  split at h
  · rename_i k l c p fs cl e
    cases h
    exact ⟨e, trivial⟩
  · cases h
theorem dOf_none {s : Shared} {i : Nat} {y : GenState} (h : dOf s i = none) (e : s.gens[i]? = some y) : dead y = y := by
  unfold dOf at h
  rw [e] at h
  cases y with
  | suspended k l c p fs cl => cases h
  | fresh c => rfl
  | running => rfl
  | finished => rfl
theorem dok_lull (s : Shared) : DOk (dOf s) (lull s) := fun i x e => by
  obtain ⟨h1, h2⟩ := dOf_some e
  refine ⟨h2, ?_⟩
  show (s.gens.map dead)[i]? = _
  rw [Array.getElem?_map, h1]; rfl
theorem okG_lull (s : Shared) : OkG (lull s).gens := fun i k l c p fs cl e => by
  have e : (s.gens.map dead)[i]? = some (.suspended k l c p fs cl) := e
  rw [Array.getElem?_map] at e
  cases q : s.gens[i]? with
  | none => rw [q] at e; cases e
  | some y =>
    rw [q] at e
    have e : some (dead y) = _ := e
    cases y with
    | suspended k2 l2 c2 p2 fs2 cl2 =>
      refine .inr ?_
      have e2 := Option.some.inj e
      unfold dead at e2
      cases e2
      rfl
    | fresh c => cases e
    | running => cases e
    | finished => cases e
theorem restore_lull (s : Shared) : restore (dOf s) (lull s) = s := by
  have : (s.gens.map dead).mapIdx (fun i y => (dOf s i).getD y) = s.gens := by
    apply Array.ext_getElem?
    intro i
    rw [Array.getElem?_mapIdx, Array.getElem?_map]
    cases q : s.gens[i]? with
    | none => rfl
    | some y =>
      show some ((dOf s i).getD (dead y)) = some y
      cases e : dOf s i with
      | none => rw [Option.getD_none, dOf_none e q]
      | some x =>
        have := (dOf_some e).1
        rw [q] at this
        cases this; rfl
  exact congrArg (fun G => ({ s with gens := G } : Shared)) this
theorem dead_bare (x : GenState) : (dead x).bare = x.bare := by cases x <;> rfl
theorem allBare_lull {s : Shared} (h : AllBare s.gens) : AllBare (lull s).gens := fun y hy => by
  have hy : y ∈ s.gens.map dead := hy
  obtain ⟨z, hz, rfl⟩ := Array.mem_map.mp hy
  rw [dead_bare]; exact h z hz
/-- s' is s0 but for the sleepers of s, which sleep on -/
structure Beside (s s0 s' : Shared) : Prop where
  same : ∃ G, s' = { s0 with gens := G }
  slp : ∀ (i : Nat) (x : GenState), s.gens[i]? = some x → asleep x → s'.gens[i]? = some x
  bare : AllBare s.gens → AllBare s0.gens → AllBare s'.gens
  size : s'.gens.size = s0.gens.size
theorem beside_of {s s0 : Shared} (d : DOk (dOf s) s0) : Beside s s0 (restore (dOf s) s0) where
  same := ⟨_, rfl⟩
  slp := fun i x e ha => by
    have hd : dOf s i = some x := by
      unfold dOf
      rw [e]
      cases x <;> first | rfl | exact ha.elim
    rw [restore_at, (d i x hd).2, hd]; rfl
  bare := fun h1 h2 y hy => by
    obtain ⟨i, hi, e⟩ := Array.mem_iff_getElem.mp hy
    have q : (restore (dOf s) s0).gens[i]? = some y := by rw [Array.getElem?_eq_getElem hi, e]
    rw [restore_at] at q
    cases q0 : s0.gens[i]? with
    | none => rw [q0] at q; cases q
    | some z =>
      rw [q0] at q
      have q : some ((dOf s i).getD z) = some y := q
      cases e2 : dOf s i with
      | none => rw [e2] at q; cases q; exact h2 _ (Array.mem_of_getElem? q0)
      | some x => rw [e2] at q; cases q; exact h1 _ (Array.mem_of_getElem? (dOf_some e2).1)
  size := restore_size
theorem wpAny_beside {α : Type} {M : Model} {A : Around} {t : Sem α} {Q : α → Shared → Prop} {E : Value → Shared → Prop} {s : Shared} (h : wpAny M A t Q E (lull s)) :
    wpAny M A t (fun a s' => ∃ s0, Q a s0 ∧ Beside s s0 s') (fun e s' => ∃ s0, E e s0 ∧ Beside s s0 s') s := fun Γ p hΓ => by
  have h2 := wp_twin M Γ (dOf s) t _ _ p (lull s) (okG_lull s) (dok_lull s) (h Γ p hΓ)
  rw [restore_lull] at h2
  exact Sem.wp_mono _ _ _ (fun a p' s' ⟨s0, q, _, d, e⟩ => ⟨s0, q, e ▸ beside_of d⟩) (fun a p' s' ⟨s0, q, _, d, e⟩ => ⟨s0, q, e ▸ beside_of d⟩) _ _ h2
end Sg
end

section
set_option Elab.async false
set_option linter.all false
set_option maxRecDepth 100000
set_option maxHeartbeats 1000000
/-! SgD: one segment of a generator's run, with any wish about its end. -/
namespace Sg
open PySem
open Sem (wp)

/-- the run from here ends, and P holds of its end -/
def Sgm (M : Model) (A : Around) (P : End → Shared → Prop) (c : Code) (t : Sem PySem.Fin) (fs : List Frame) (s : Shared) : Prop :=
  ∀ (Γ : Ctx) (p : Pos), Γ.code = c → Γ.Woken A → ∃ e s', Runs M Γ p t fs s e s' ∧ P e s'
section
variable {M : Model} {A : Around} {P : End → Shared → Prop} {c : Code} {fs : List Frame} {s : Shared}
theorem sgm_wrap {α : Type} {m : Sem α} {K : α → Sem PySem.Fin} {H : Value → Sem PySem.Fin} {gd : Bool → Bool} {lv : List Value → List Value}
    (h : wpAny M (A.over c fs) m (fun a s' => Sgm M A P c (K a) fs s') (fun x s' => Sgm M A P c (H x) fs s') s) : Sgm M A P c (m.wrap K H gd lv) fs s := by
  rintro Γ p rfl hΓ
  exact runs_wrap_of_wp K H gd lv m (h (Γ.over fs) p (hΓ.over fs)) (fun a p' s' h' => h' Γ p' rfl hΓ) (fun x p' s' h' => h' Γ p' rfl hΓ)
theorem sgm_bind {α : Type} {m : Sem α} {K : α → Sem PySem.Fin}
    (h : wpAny M (A.over c fs) m (fun a s' => Sgm M A P c (K a) fs s') (fun x s' => Sgm M A P c (.raise x) fs s') s) : Sgm M A P c (m >>= K) fs s := by
  rw [Sem.bind_eq_wrap']; exact sgm_wrap h
theorem sgm_at {p' : Pos} {k : Unit → Sem PySem.Fin} (h : Sgm M A P c (k ()) fs s) : Sgm M A P c (.at p' k) fs s :=
  sgm_wrap (m := standAt p') (K := k) (H := .raise) (gd := id) (lv := id) (wpAny_standAt h)
theorem sgm_point {l : List Value} {k : Unit → Sem PySem.Fin} (h : Sgm M A P c (k ()) fs s) : Sgm M A P c (.point l k) fs s :=
  sgm_wrap (m := point) (K := k) (H := .raise) (gd := id) (lv := fun _ => l) (wpAny_point h)
theorem sgm_call {c' : Code} {h : Option Value} {g : Bool} {l : List Value} {k : Result → Sem PySem.Fin} (hc : ∀ p, Sgm M A P c' (M.den c') (.ret k h g l c p [] :: fs) s) : Sgm M A P c (.call c' h g l k) fs s := by
  rintro Γ p rfl hΓ
  obtain ⟨e, s', hr, he⟩ := hc p (Γ.goto c') p rfl (hΓ.goto c')
  exact ⟨e, s', runs_call_seg hr, he⟩
theorem sgm_leaf {k : Result → Sem PySem.Fin} {h : Option Value} {g : Bool} {l kp : List Value} {c₁ : Code} {p₁ : Pos} (r : Result) (hk : Sgm M A P c₁ (k r) fs s) : Sgm M A P c (leafOf r) (.ret k h g l c₁ p₁ kp :: fs) s := by
  rintro Γ p rfl hΓ
  obtain ⟨e, s', hr, he⟩ := hk (Γ.goto c₁) p₁ rfl (hΓ.goto c₁)
  exact ⟨e, s', Runs.pop r hr, he⟩
theorem sgm_again {c' : Code} (hq : c'.quiet = true) (hc : Sgm M A P c' (M.den c') fs s) : Sgm M A P c (.pure (.again c')) fs s := by
  rintro Γ p rfl hΓ
  obtain ⟨e, s', hr, he⟩ := hc (Γ.goto c') p rfl (hΓ.goto c')
  exact ⟨e, s', Runs.head (c₁ := c') (fun _ _ x => .again hq x) hr, he⟩
theorem sgm_end (r : Result) (h : P (.ret r) s) : Sgm M A P c (leafOf r) [] s := by
  rintro Γ p rfl hΓ
  refine ⟨.ret r, s, ?_, h⟩
  cases r with
  | ok f => exact .done
  | error e => exact .raise
theorem sgm_yield {v : Value} {g : Bool} {l : List Value} {k : Resume → Sem PySem.Fin} (hfs : splitAtGen fs = none) (h : ∀ p₀, P (.susp v g l k c p₀ fs) s) : Sgm M A P c (.yield v g l k) fs s := by
  rintro Γ p rfl hΓ
  exact ⟨_, s, Runs.yield' fs hfs, h p⟩
theorem sgm_imp {P' : End → Shared → Prop} {t : Sem PySem.Fin} (h : Sgm M A P c t fs s) (q : ∀ e s', P e s' → P' e s') : Sgm M A P' c t fs s := fun Γ p hc hΓ =>
  let ⟨e, s', hr, he⟩ := h Γ p hc hΓ; ⟨e, s', hr, q e s' he⟩
variable {env : Env} {K : Flow → Sem PySem.Fin} {H : Value → Sem PySem.Fin} {gd : Bool → Bool} {lv : List Value → List Value}
theorem sgm_nil (h : Sgm M A P c (K .next) fs s) : Sgm M A P c ((execs [] env).wrap K H gd lv) fs s := h
theorem sgm_cons {st : Stmt} {rest : List Stmt}
    (h : Sgm M A P c ((exec st env).wrap (fun f => match f with | .next => (execs rest env).wrap K H gd lv | f => K f) H gd lv) fs s) : Sgm M A P c ((execs (st :: rest) env).wrap K H gd lv) fs s := by
  rw [execs_cons_wrap]; exact h
end
end Sg
end

section
set_option Elab.async false
set_option linter.all false
set_option maxRecDepth 100000
set_option maxHeartbeats 1000000
/-! SgE: waking a generator; the statement `yield`. -/
namespace Sg
open PySem PySem.Spec PyProof.Rows GenW
open Sem (wp)

/-- the run of a generator that is woken -/
def GoS (M : Model) (A : Around) (P : End → Shared → Prop) (gs : GenState) (s : Shared) : Prop := match gs with
  | .fresh c => Sgm M A P c (M.den c) [] s
  | .suspended k _ c _ fs _ => Sgm M A P c (k (.send .none)) fs s
  | _ => False
theorem wpAny_resumeS {M : Model} {A : Around} {P : End → Shared → Prop} {E : Value → Shared → Prop} {s : Shared} {g : Nat} {gs : GenState} {l : List Value} {α : Type} {k : GenResult → Sem α} {Q : α → Shared → Prop}
    (hg : s.gens[g]? = some gs) (hgo : GoS M A P gs (s.setGen g .running)) (hP : ∀ e s₁, P e s₁ → e.quiet = true ∧ wpAny M A (k e.result) Q E (s₁.setGen g e.genState)) :
    wpAny M A (.resume g (.send .none) l k) Q E s := by
  intro Γ p hΓ
  rw [Sem.wp_resume]
  cases gs with
  | fresh c =>
    obtain ⟨e₁, s₁, hr, he⟩ := hgo (Γ.wake c p) p rfl (hΓ.wake c p)
    obtain ⟨hq, hw⟩ := hP e₁ s₁ he
    exact ⟨_, _, by unfold Wakes; rw [hg]; exact ⟨e₁, s₁, hr, hq, rfl, rfl⟩, hw Γ p hΓ⟩
  | suspended k₀ l₀ c₀ p₀ fs₀ cl =>
    obtain ⟨e₁, s₁, hr, he⟩ := hgo (Γ.wake c₀ p) p₀ rfl (hΓ.wake c₀ p)
    obtain ⟨hq, hw⟩ := hP e₁ s₁ he
    exact ⟨_, _, by unfold Wakes; rw [hg]; exact ⟨e₁, s₁, hr, hq, rfl, rfl⟩, hw Γ p hΓ⟩
  | running => exact hgo.elim
  | finished => exact hgo.elim

/-- next(g): P's ends are a yield or a plain end -/
theorem next_genS {P : Program} {w : World} {A : Around} {E : Value → Shared → Prop} {s : Shared} {a : Addr} {g : Nat} {gs : GenState} {PE : End → Shared → Prop} {Q : Option Value → Shared → Prop} (hh : A.handled = none)
    (hl : s.heap.NoLimit) (hroom : A.depth < recursionLimit) (hg : s.heap.IsGen a g) (hgs : s.gens[g]? = some gs) (hgo : GoS (model P w) A.in1 PE gs (s.setGen g .running))
    (hP : ∀ e s₁, PE e s₁ → match e with
      | .ret (.ok .next) => ∀ h', (∀ b o, s₁.heap.get? b = some o → h'.get? b = some o) → Q none { s₁.setGen g .finished with heap := h' }
      | .ret (.ok (.ret .none)) => ∀ h', (∀ b o, s₁.heap.get? b = some o → h'.get? b = some o) → Q none { s₁.setGen g .finished with heap := h' }
      | .susp v g' l k c p fs => (End.susp v g' l k c p fs).quiet = true ∧ Q (some v) (s₁.setGen g (End.susp v g' l k c p fs).genState)
      | _ => False) :
    wpAny (model P w) A (pyNext (.ref a)) Q E s := by
  unfold pyNext
  refine wpAny_bind (wpAny_attempt (wpAny_callSpecial?_slot (name := Str.ofString "__next__") hg.typeIs slot_gen_next
    (wpAny_call_entry slot_gen_next hg.typeIs entry_gen_next ?_ (args_gen_next _))))
  show wpAny _ A.in1 (Builtin.Generator.genWake (.ref a) (.send .none)) _ _ s
  unfold Builtin.Generator.genWake
  refine wpAny_bind (wpAny_holding (wpAny_genNumber hg (wpAny_bind (wpAny_genState hgs ?_))))
  have stopped : ∀ (x : Flow) (s₁ : Shared), (x = .next ∨ x = .ret .none) → (∀ h', (∀ b o, s₁.heap.get? b = some o → h'.get? b = some o) → Q none { s₁.setGen g .finished with heap := h' }) →
      (End.ret (.ok x)).result = .returned .none := fun x _ hx _ => by rcases hx with rfl | rfl <;> rfl
  cases gs with
  | running => exact hgo.elim
  | finished => exact hgo.elim
  | _ =>
    refine wpAny_bind (wpAny_roomToWake hl hroom ?_)
    show wpAny _ A.in1 (.resume g (.send .none) [] _) _ _ s
    refine wpAny_resumeS hgs hgo fun e s₁ he => ?_
    have he := hP e s₁ he
    have nx : ∀ x : Flow, e = .ret (.ok x) → (x = .next ∨ x = .ret .none) ∧ ∀ h', (∀ b o, s₁.heap.get? b = some o → h'.get? b = some o) → Q none { s₁.setGen g .finished with heap := h' } := fun x ex => by
      subst ex
      cases x with
      | next => exact ⟨.inl rfl, he⟩
      | brk => exact he.elim
      | cont => exact he.elim
      | ret v => cases v <;> first | exact ⟨.inr rfl, he⟩ | exact he.elim
    cases e with
    | ret r =>
      cases r with
      | error x => exact he.elim
      | ok x =>
        obtain ⟨hx, q⟩ := nx x rfl
        refine ⟨rfl, ?_⟩
        have hres := stopped x s₁ hx q
        show wpAny _ A.in1 _ _ _ (s₁.setGen g .finished)
        first | rw [hres] | simp only [hres]
        show wpAny _ A.in1 (newExc (.type "StopIteration") [] >>= _) _ _ _
        refine wpAny_bind ?_
        simp only [newExc, newTuple]
        refine wpAny_bind (wpAny_newObj_type ?_ (by size_fits))
        refine wpAny_bind (m := firstArgMember _ _) (wpAny_of_eq (a := Value.none) (by first | rfl | (simp only [firstArgMember]; rfl)) ?_)
        refine wpAny_newObj_type ?_ (by size_fits)
        simp only [raiseNew]
        refine wpAny_bind (wpAny_bind (wpAny_handled ?_))
        first | rw [show A.in1.handled = none from hh] | rw [hh]
        refine wpAny_throw ?_
        refine wpAny_bind (wpAny_isInstance (T := "StopIteration") (b := true) ⟨_, Heap.get?_push_size _ rfl, rfl⟩ isSubtype_stop ?_)
        exact wpAny_pure (q _ fun b o hb => Heap.get?_push_of_some _ (Heap.get?_push_of_some _ hb))
    | susp v g' l k c p fs =>
      exact ⟨he.1, wpAny_pure ⟨v, rfl, wpAny_pure he.2⟩⟩
end Sg
end

section
set_option Elab.async false
set_option linter.all false
set_option maxRecDepth 100000
set_option maxHeartbeats 1000000
/-! SgF: the statements of a generator's body, over Sgm. -/
namespace Sg
open PySem PySem.Spec PyProof.Rows GenW
open Sem (wp)
section
variable {M : Model} {A : Around} {P : End → Shared → Prop} {c : Code} {fs : List Frame} {s : Shared} {env : Env} {K : Flow → Sem PySem.Fin} {H : Value → Sem PySem.Fin} {gd : Bool → Bool} {lv : List Value → List Value}
theorem sgm_If {test : Expr} {body orelse : List Stmt} {pos : Pos}
    (h : wpAny M (A.over c fs) (isTrue test env (eval test env)) (fun b s' => Sgm M A P c ((if b = true then execs body env else execs orelse env).wrap K H gd lv) fs s') (fun x s' => Sgm M A P c (H x) fs s') s) :
    Sgm M A P c ((exec (.If test body orelse pos) env).wrap K H gd lv) fs s := by
  rw [exec_If]
  show Sgm M A P c (.at pos fun _ => ((isTrue test env (eval test env)) >>= fun b => if b = true then execs body env else execs orelse env).wrap K H gd lv) fs s
  refine sgm_at ?_
  rw [Sem.bind_eq_wrap', Sem.wrap_wrap]
  exact sgm_wrap h
theorem sgm_Yield {e : Expr} {ypos pos : Pos} (hfs : splitAtGen fs = none) (hgd : gd false = false)
    (h : wpAny M (A.over c fs) (eval e env) (fun v s' => ∀ (l : List Value) (k : Resume → Sem PySem.Fin) (p₀ : Pos), (∀ (P' : End → Shared → Prop) s'', Sgm M A P' c (K .next) fs s'' → Sgm M A P' c (k (.send .none)) fs s'') → P (.susp v false l k c p₀ fs) s')
      (fun x s' => Sgm M A P c (H x) fs s') s) (hco : env.scope.isCoroutine = false := by rfl) (hi : interactive env = false := by rfl) :
    Sgm M A P c ((exec (.Expr (.Yield (some e) ypos) pos) env).wrap K H gd lv) fs s := by
  rw [exec_Expr env _ pos hi rfl]
  have hy : ∀ v, yieldOut env v = yieldValue v := fun v => by simp only [yieldOut, hco, Bool.false_eq_true, if_false]
  show Sgm M A P c (.at pos fun _ => ((eval e env >>= fun v => (standAt ypos >>= fun _ => yieldOut env v)) >>= fun x => dropValue (.Yield (some e) ypos) pos x).wrap K H gd lv) fs s
  simp only [hy]
  refine sgm_at ?_
  rw [Sem.bind_eq_wrap', Sem.bind_eq_wrap', Sem.wrap_wrap, Sem.wrap_wrap]
  refine sgm_wrap (wpAny_mono h (fun v s' h' => ?_) fun _ _ x => x)
  refine sgm_at ?_
  show Sgm M A P c (.yield v (gd false) _ _) fs s'
  rw [hgd]
  exact sgm_yield hfs fun p₀ => h' _ _ p₀ fun P' s'' q => q
end
end Sg
end

section
set_option Elab.async false
set_option linter.all false
set_option maxRecDepth 100000
set_option maxHeartbeats 1000000
/-! SgG: a `for` in a generator's body, over Sgm. -/
namespace Sg
open PySem PySem.Spec PyProof.Rows GenW
open Sem (wp)
/-- what a loop's code does with an exception -/
def XH (env : Env) (e : Value) : Sem PySem.Fin := (do noteFrame e env; theTreesLotGoes e : Sem Unit).bind (fun _ => .raise e)
def forK (target : Expr) (it : Value) (body orelse : List Stmt) (env : Env) (f : Flow) : Sem PySem.Fin := match f with
  | .next | .cont => .pure (.again (.forLoop target it body orelse env))
  | .brk => .pure (.done .next)
  | .ret v => .pure (.done (.ret v))
section
variable {prog : Program} {w : World} {A : Around} {P : End → Shared → Prop} {c : Code} {fs : List Frame} {s : Shared} {env : Env} {K : Flow → Sem PySem.Fin} {H : Value → Sem PySem.Fin} {gd : Bool → Bool} {lv : List Value → List Value}
theorem sgm_forLoop {target : Expr} {it : Value} {body orelse : List Stmt}
    (h : wpAny (model prog w) (A.over c fs) (pyNext it) (fun r s1 => match r with
        | none => Sgm (model prog w) A P c (.pure (.again (.block orelse env))) fs s1
        | some v => wpAny (model prog w) (A.over c fs) (letOwnedTupleGo target it v) (fun _ s2 => wpAny (model prog w) (A.over c fs) (assign target env v) (fun _ s3 =>
            Sgm (model prog w) A P c ((execs body env).wrap (forK target it body orelse env) (XH env) id id) fs s3) (fun x s' => Sgm (model prog w) A P c (XH env x) fs s') s2) (fun x s' => Sgm (model prog w) A P c (XH env x) fs s') s1)
      (fun x s' => Sgm (model prog w) A P c (XH env x) fs s') s) (hc : c = .forLoop target it body orelse env) :
    Sgm (model prog w) A P c ((model prog w).den (.forLoop target it body orelse env)) fs s := by
  show Sgm _ A P c ((forTurn target it body orelse env).onRaise (fun x => do noteFrame x env; theTreesLotGoes x)) fs s
  unfold forTurn
  rw [Sem.onRaise_eq_wrap]
  show Sgm _ A P c (.at target.pos fun _ => (((pyNext it).onRaise (fun _ => standAt { target.pos with line := 0 })) >>= fun r => _).wrap .pure (XH env) id id) fs s
  refine sgm_at ?_
  rw [Sem.bind_eq_wrap', Sem.wrap_wrap]
  refine sgm_wrap (wpAny_onRaise (wpAny_mono h (fun r s1 hr => ?_) fun x s' hx => wpAny_standAt hx))
  cases r with
  | none => exact hr
  | some v =>
    show Sgm _ A P c ((letOwnedTupleGo target it v >>= fun _ => assign target env v >>= fun _ => execs body env >>= fun f => _).wrap .pure (XH env) id id) fs s1
    rw [Sem.bind_eq_wrap', Sem.wrap_wrap]
    refine sgm_wrap (wpAny_mono hr (fun _ s2 h2 => ?_) fun x s' hx => hx)
    rw [Sem.bind_eq_wrap', Sem.wrap_wrap]
    refine sgm_wrap (wpAny_mono h2 (fun _ s3 h3 => ?_) fun x s' hx => hx)
    rw [Sem.bind_eq_wrap', Sem.wrap_wrap]
    rw [Sem.wrap_congr (execs body env) _ _ (K' := forK target it body orelse env) (H' := XH env) (fun f => by cases f <;> rfl) (fun e => by rfl)]
    exact h3
theorem sgm_For {target iter : Expr} {body orelse : List Stmt} {pos : Pos}
    (h : wpAny (model prog w) (A.over c fs) (eval iter env) (fun x s₁ => wpAny (model prog w) (A.over c fs) (pyIter x) (fun it s₂ => ∀ p,
        Sgm (model prog w) A P (.forLoop target it body orelse env) ((model prog w).den (.forLoop target it body orelse env))
          (.ret (fun r => ((match r with | .ok f => (.pure f : Sem Flow) | .error e => .raise e).onRaise (L2.cameBack env)).wrap K H gd lv) none (gd false) (lv []) c p [] :: fs) s₂)
        (fun x s' => Sgm (model prog w) A P c (H x) fs s') s₁) (fun x s' => Sgm (model prog w) A P c (H x) fs s') s)
    (hs : ∀ x, foldedSetIterable iter env x = pure x := by intro _; rfl) :
    Sgm (model prog w) A P c ((exec (.For target iter body orelse pos) env).wrap K H gd lv) fs s := by
  rw [exec_For]
  show Sgm _ A P c (.at pos fun _ => ((eval iter env) >>= fun x => foldedSetIterable iter env x >>= fun x => standAt iter.pos >>= fun _ => holding [x] (pyIter x) >>= fun it => runOwn (.forLoop target it body orelse env) env).wrap K H gd lv) fs s
  refine sgm_at ?_
  rw [Sem.bind_eq_wrap', Sem.wrap_wrap]
  refine sgm_wrap (wpAny_mono h (fun x s1 h1 => ?_) fun x s' hx => hx)
  rw [hs x]
  show Sgm _ A P c (.at iter.pos fun _ => (holding [x] (pyIter x) >>= fun it => runOwn (.forLoop target it body orelse env) env).wrap K H gd lv) fs s1
  refine sgm_at ?_
  rw [Sem.bind_eq_wrap', Sem.wrap_wrap]
  refine sgm_wrap (wpAny_holding (wpAny_mono h1 (fun it s2 h2 => ?_) fun x s' hx => hx))
  exact sgm_call h2
end
end Sg
end

section
set_option Elab.async false
set_option linter.all false
set_option maxRecDepth 100000
set_option maxHeartbeats 1000000
/-! SgH: a context whose base is put anew at a wake. -/
namespace Sg
open PySem PySem.Spec PyProof.Rows GenW L2

/-- the heap, of its first n objects -/
def cut (n : Nat) (h : Heap) : Heap := ⟨h.objs.extract 0 n, h.life⟩
theorem cut_get {n : Nat} {h : Heap} {a : Nat} (ha : a < n) : (cut n h).get? a = h.get? a := by
  have : (h.objs.extract 0 n)[a]? = h.objs[a]? := by
    rw [Array.getElem?_extract]
    by_cases hs : a < h.objs.size
    · rw [if_pos (by omega), Nat.zero_add]
    · rw [if_neg (by omega), Array.getElem?_eq_none (by omega)]
  show (match (h.objs.extract 0 n)[a]? with | some ⟨_, _, .freed, _⟩ => none | o => o) = (match h.objs[a]? with | some ⟨_, _, .freed, _⟩ => none | o => o)
  rw [this]
theorem cut_size {n : Nat} {h : Heap} (hn : n ≤ h.objs.size) : (cut n h).objs.size = n := by
  show (h.objs.extract 0 n).size = n
  rw [Array.size_extract]; omega
theorem cut_none {n : Nat} {h : Heap} {a : Nat} (hn : n ≤ h.objs.size) (ha : n ≤ a) : (cut n h).get? a = none := Heap.get?_none_of_le (by rw [cut_size hn]; exact ha)
theorem cut_some {n : Nat} {h : Heap} {a : Nat} {o : Obj} (hn : n ≤ h.objs.size) (e : (cut n h).get? a = some o) : a < n ∧ h.get? a = some o := by
  by_cases ha : a < n
  · exact ⟨ha, by rw [cut_get ha] at e; exact e⟩
  · rw [cut_none hn (by omega)] at e; cases e
/-- the base put anew -/
def reb (X : L2.Cx) (n : Nat) (s : Shared) (H : Hp) : L2.Cx := { X with s_0 := { s with heap := cut n s.heap }, H_0 := H }
theorem funFrames_cut {n : Nat} {h base : Heap} (hn : n ≤ h.objs.size) : ∀ {l : List Env}, (∀ b ∈ frs l, b < n) → h.FunFrames base l → (cut n h).FunFrames base l := by
  intro l
  induction l with
  | nil => intro _ _; trivial
  | cons env r ih =>
    intro hs hl
    obtain ⟨hk, ⟨L, o, hf, hnb, ho, hd⟩, hr⟩ := hl
    have hL : L < n := hs L (by unfold frs; rw [List.filterMap_cons, hf]; exact List.mem_cons_self)
    exact ⟨hk, ⟨L, o, hf, hnb, (cut_get hL).trans ho, hd⟩, ih (fun b hb => hs b (by unfold frs at hb ⊢; rw [List.filterMap_cons, hf]; exact List.mem_cons_of_mem _ hb)) hr⟩
end Sg
end

section
set_option Elab.async false
set_option linter.all false
set_option maxRecDepth 100000
set_option maxHeartbeats 1000000
/-! SgI: Inv again at a wake. -/
namespace Sg
open PySem PySem.Spec PyProof.Rows GenW L2
theorem inv_reb {X : L2.Cx} {pins : List (Addr × Obj)} {σ : L2.St} {H0 H : Hp} {s0 s : Shared} {n : Nat} (I : Inv X pins σ H0 s0) (hn : n = X.s_0.heap.objs.size) (hsz : n ≤ s.heap.objs.size) (bare : AllBare s.gens)
    (hb : ∀ b o, X.base.get? b = some o → s.heap.get? b = some o ∧ H b = none) (hf : s.heap.FunFrames X.base X.outer) (hfn : ∀ b ∈ X.fs, b < n ∧ H b = none)
    (own : s.heap.get? X.env.locals = s0.heap.get? X.env.locals ∧ H X.env.locals = none) (cells : ∀ x c, X.env.cells.lookup x = some c → s.heap.get? c = s0.heap.get? c ∧ H c = none)
    (pin : ∀ p ∈ X.pn ++ pins, s.heap.get? p.1 = some p.2 ∧ H p.1 = none) (hok : HOk X.prog X.w H s.heap) : Inv (reb X n s H) pins σ H s := by
  have cs : (cut n s.heap).objs.size = n := cut_size hsz
  have k := I.ok
  have cellK : ∀ x c, X.env.cells.lookup x = some c → ∀ v, s0.heap.IsCell c v → s.heap.IsCell c v := fun x c e v ⟨o, ho, hd⟩ => ⟨o, (cells x c e).1.trans ho, hd⟩
  have blt : ∀ b o, X.base.get? b = some o → b < n := fun b o e => by
    rw [hn]
    exact Nat.lt_of_lt_of_le (Heap.lt_size e) k.bsz
  have ok : (reb X n s H).Ok := {
    mod := k.mod, kind := k.kind, glob := k.glob, blt := k.blt
    above := by
      show (cut n s.heap).objs.size ≤ X.env.locals
      rw [cs, hn]; exact k.above
    inj := k.inj, has := k.has
    cab := fun x c h1 h2 => by
      show (cut n s.heap).objs.size ≤ c
      rw [cs, hn]; exact k.cab x c h1 h2
    hd := k.hd, frames := k.frames, stk := k.stk, exf := k.exf
    bs := fun b o e => ⟨(cut_get (blt b o e)).trans (hb b o e).1, (hb b o e).2⟩
    bsz := by
      show X.base.objs.size ≤ (cut n s.heap).objs.size
      rw [cs, hn]; exact k.bsz
    noex := k.noex, exfs := k.exfs
    funs := funFrames_cut hsz (fun b hb' => (hfn b hb').1) hf
    frf := fun b hb' => (hfn b hb').2 }
  refine ⟨ok, rfl, bare, Un.kept fun b o e => (cut_some hsz e).2, ?_, fun x c e => ?_, own.2, fun x c e => (cells x c e).2, fun p hp => ?_, hok, I.len⟩
  · obtain ⟨m, ⟨o, es, ep, ho, r⟩, hl⟩ := I.loc
    refine ⟨m, ⟨o, es, ep, own.1.trans ho, r⟩, fun i x v e1 e2 e3 => ?_⟩
    obtain ⟨u, r, l⟩ := hl i x v e1 e2 e3
    refine ⟨u, r, ?_⟩
    rcases l with l | ⟨k, c, e, z⟩
    · exact .inl l
    · exact .inr ⟨k, c, e, cellK x c e _ z⟩
  · obtain ⟨v, z⟩ := I.cell x c e
    exact ⟨v, cellK x c e v z⟩
  · obtain ⟨_, _, h3, h4, h5⟩ := I.pin p hp
    exact ⟨(pin p hp).1, (pin p hp).2, h3, h4, h5⟩
end Sg
end

section
set_option Elab.async false
set_option linter.all false
set_option maxRecDepth 100000
set_option maxHeartbeats 1000000
/-! SgK: what a sleeping generator promises. -/
namespace Sg
open PySem PySem.Spec PyProof.Rows GenW L2 Sy

abbrev Pin := List (Addr × Obj)
/-- the state of a running generator: its base (the wake), what stands now -/
structure At (Γ : Tx) (X : L2.Cx) (ip : Pin) (sb : Shared) (Hb : Hp) (Zb : Addr → Prop) (s : Shared) (σ : L2.St) (H : Hp) (Z : Addr → Prop) (ρ : Sy.Env) : Prop where
  inv : Inv (reb X X.s_0.heap.objs.size sb Hb) ip σ H s
  ste : Ste Γ Z [] [] H
  slo : Slo Γ Z [] ρ σ H
  ext : Ext Zb [] Hb Z [] H
  hi : ∀ p ∈ X.pn ++ ip, X.s_0.heap.objs.size ≤ p.1
/-- what the consumer is told at the end of a segment -/
structure Told (Γ : Tx) (X : L2.Cx) (sb : Shared) (Hb : Hp) (Zb : Addr → Prop) (s : Shared) (H : Hp) (Z : Addr → Prop) : Prop where
  un : Un X.fs X.ex Hb H (cut X.s_0.heap.objs.size sb.heap) s.heap
  os : s.os = sb.os
  bare : AllBare s.gens
  hok : HOk X.prog X.w H s.heap
  ste : Ste Γ Z [] [] H
  ext : Ext Zb [] Hb Z [] H
theorem At.told {Γ : Tx} {X : L2.Cx} {ip : Pin} {sb : Shared} {Hb : Hp} {Zb : Addr → Prop} {s : Shared} {σ : L2.St} {H : Hp} {Z : Addr → Prop} {ρ : Sy.Env} (a : At Γ X ip sb Hb Zb s σ H Z ρ) : Told Γ X sb Hb Zb s H Z :=
  ⟨a.inv.base, a.inv.os, a.inv.bare, a.inv.hok, a.ste, a.ext⟩
/-- what must hold when it is woken -/
structure Wake (Γ : Tx) (X : L2.Cx) (priv : Pin) (Z : Addr → Prop) (H : Hp) (s' : Shared) (H' : Hp) (Z' : Addr → Prop) : Prop where
  size : X.s_0.heap.objs.size ≤ s'.heap.objs.size
  bare : AllBare s'.gens
  base : ∀ b o, X.base.get? b = some o → s'.heap.get? b = some o ∧ H' b = none
  funs : s'.heap.FunFrames X.base X.outer
  frf : ∀ b ∈ X.fs, b < X.s_0.heap.objs.size ∧ H' b = none
  priv : ∀ p ∈ priv, s'.heap.get? p.1 = some p.2 ∧ H' p.1 = none
  hok : HOk X.prog X.w H' s'.heap
  ste : Ste Γ Z' [] [] H'
  wk : Wkr Z H Z' H'
/-- asleep, with these items to come -/
def Slp (Γ : Tx) (X : L2.Cx) (A : Around) : List Sy.T → GenState → Pin → (Addr → Prop) → Hp → Prop
  | [], gs, priv, Z, H => ∀ s' H' Z', Wake Γ X priv Z H s' H' Z' → GoS (model X.prog X.w) A (fun e s => (e = .ret (.ok .next) ∨ e = .ret (.ok (.ret .none))) ∧ ∃ H2 Z2, Told Γ X s' H' Z' s H2 Z2) gs s'
  | x :: rest, gs, priv, Z, H => ∀ s' H' Z', Wake Γ X priv Z H s' H' Z' → GoS (model X.prog X.w) A (fun e s => match e with
      | .susp v g l k c p fs => (End.susp v g l k c p fs).quiet = true ∧ ∃ H2 Z2 priv2 xv, Told Γ X s' H' Z' s H2 Z2 ∧ (∀ q ∈ priv2, s.heap.get? q.1 = some q.2 ∧ H2 q.1 = none ∧ X.s_0.heap.objs.size ≤ q.1 ∧ ∀ v, q.2.data ≠ .cell v) ∧ (∀ q ∈ X.pn, q ∈ priv2) ∧ RelV xv v ∧ Rep Γ Z2 (strip H2) x xv ∧ Slp Γ X A rest (End.susp v g l k c p fs).genState priv2 Z2 H2
      | _ => False) gs s'
end Sg
end

section
set_option Elab.async false
set_option linter.all false
set_option maxRecDepth 100000
set_option maxHeartbeats 1000000
/-! SgL: soundness of a generator's body. -/
namespace Sg
open PySem PySem.Spec PyProof.Rows GenW L2 Sy
/-- the wish about the end of the segment that began at the base -/
def EndW (Γ : Tx) (X : L2.Cx) (A : Around) (todo : List Sy.T) (sb : Shared) (Hb : Hp) (Zb : Addr → Prop) (e : End) (s : Shared) : Prop := match todo with
  | [] => (e = .ret (.ok .next) ∨ e = .ret (.ok (.ret .none))) ∧ ∃ H2 Z2, Told Γ X sb Hb Zb s H2 Z2
  | x :: rest => match e with
    | .susp v g l k c p fs => (End.susp v g l k c p fs).quiet = true ∧ ∃ H2 Z2 priv2 xv, Told Γ X sb Hb Zb s H2 Z2 ∧ (∀ q ∈ priv2, s.heap.get? q.1 = some q.2 ∧ H2 q.1 = none ∧ X.s_0.heap.objs.size ≤ q.1 ∧ ∀ v, q.2.data ≠ .cell v) ∧ (∀ q ∈ X.pn, q ∈ priv2) ∧ RelV xv v ∧ Rep Γ Z2 (strip H2) x xv ∧ Slp Γ X A rest (End.susp v g l k c p fs).genState priv2 Z2 H2
    | _ => False
theorem slp_iff {Γ : Tx} {X : L2.Cx} {A : Around} {todo : List Sy.T} {gs : GenState} {priv : Pin} {Z : Addr → Prop} {H : Hp} :
    Slp Γ X A todo gs priv Z H ↔ ∀ s' H' Z', Wake Γ X priv Z H s' H' Z' → GoS (model X.prog X.w) A (EndW Γ X A todo s' H' Z') gs s' := by
  cases todo with
  | nil => exact Iff.rfl
  | cons x rest => exact Iff.rfl
/-- where the generator's code stands -/
structure GCt (X : L2.Cx) (A : Around) (c : Code) (fs : List Frame) (gd : Bool → Bool) : Prop where
  over : A.over c fs = X.A
  split : splitAtGen fs = none
  guard : fs.any Frame.guarded = false
  gd : gd false = false
theorem gct_loop {X : L2.Cx} {A : Around} {c c' : Code} {fs : List Frame} {gd : Bool → Bool} {k : Result → Sem PySem.Fin} {l kp : List Value} {p : Pos} (g : GCt X A c fs gd) (hw : c'.weight = 0) (hu : c'.cUnits = 0) :
    GCt X A c' (.ret k none (gd false) l c p kp :: fs) id where
  over := (over_loop hw hu).trans g.over
  split := by
    show (splitAtGen fs).map _ = none
    rw [g.split]; rfl
  guard := by
    show (gd false || fs.any Frame.guarded) = false
    rw [g.gd, g.guard]; rfl
  gd := rfl
end Sg
end

section
set_option Elab.async false
set_option linter.all false
set_option maxRecDepth 100000
set_option maxHeartbeats 1000000
/-! SgM: behind a wake. -/
namespace Sg
open PySem PySem.Spec PyProof.Rows GenW L2 Sy
theorem at_wake {Γ : Tx} {X : L2.Cx} {ip : Pin} {sb : Shared} {Hb : Hp} {Zb : Addr → Prop} {s : Shared} {σ : L2.St} {H : Hp} {Z : Addr → Prop} {ρ : Sy.Env} (hc : X.env.cells = []) (hn : X.s_0.heap.objs.size ≤ sb.heap.objs.size)
    (a : At Γ X ip sb Hb Zb s σ H Z ρ) {ol : Obj} (hol : s.heap.get? X.env.locals = some ol) {s' : Shared} {H' : Hp} {Z' : Addr → Prop} (w : Wake Γ X ((X.env.locals, ol) :: (X.pn ++ ip)) Z H s' H' Z') : At Γ X ip s' H' Z' s' σ H' Z' ρ := by
  have l := w.priv _ List.mem_cons_self
  refine ⟨?_, w.ste, ⟨a.slo.len, fun i x h => ?_⟩, Ext.refl w.ste, a.hi⟩
  · exact inv_reb (X := reb X X.s_0.heap.objs.size sb Hb) (n := X.s_0.heap.objs.size) a.inv (cut_size hn).symm w.size w.bare w.base w.funs w.frf ⟨l.1.trans hol.symm, l.2⟩ (fun x c e => by
      have e : X.env.cells.lookup x = some c := e
      rw [hc] at e; cases e) (fun p hp => w.priv p (List.mem_cons_of_mem _ hp)) w.hok
  · obtain ⟨v, h1, h2⟩ := a.slo.sl i x h
    refine ⟨v, h1, ?_⟩
    cases x with
    | t t => exact Rep.mono w.wk.zs w.wk.zk t v h2
    | loc n => obtain ⟨b, e, _⟩ := h2; cases e
end Sg
end

section
set_option Elab.async false
set_option linter.all false
set_option maxRecDepth 100000
set_option maxHeartbeats 1000000
/-! SgN: the statements of a generator's body. -/
namespace Sg
open PySem PySem.Spec PyProof.Rows GenW L2 Sy
def fits : O → Flow → Sy.Env → Prop
  | .nx r μ, .next, ρ => μ = [] ∧ ρ = r
  | .bk r μ, .brk, ρ => μ = [] ∧ ρ = r
  | .ct r μ, .cont, ρ => μ = [] ∧ ρ = r
  | _, _, _ => False
def goodO : O → Prop
  | .nx _ μ => μ = []
  | .bk _ μ => μ = []
  | .ct _ μ => μ = []
  | _ => False
def ZS (Γ : Tx) (X : L2.Cx) (st : Stmt) (F : Sy.Env → GO) : Prop :=
  ∀ (A : Around) (c : Code) (fs : List Frame) (K : Flow → Sem PySem.Fin) (J : Value → Sem PySem.Fin) (gd : Bool → Bool) (lv : List Value → List Value) (ip : Pin) (rest : List Sy.T) (sb : Shared) (Hb : Hp) (Zb : Addr → Prop) (s : Shared) (σ : L2.St) (H : Hp) (Z : Addr → Prop) (ρ : Sy.Env),
    GCt X A c fs gd → X.s_0.heap.objs.size ≤ sb.heap.objs.size → At Γ X ip sb Hb Zb s σ H Z ρ → goodO (F ρ).2 →
    (∀ f sb' Hb' Zb' s' σ' H' Z' ρ', X.s_0.heap.objs.size ≤ sb'.heap.objs.size → At Γ X ip sb' Hb' Zb' s' σ' H' Z' ρ' → Wkr Z H Z' H' → fits (F ρ).2 f ρ' → Sgm (model X.prog X.w) A (EndW Γ X A rest sb' Hb' Zb') c (K f) fs s') →
    Sgm (model X.prog X.w) A (EndW Γ X A ((F ρ).1 ++ rest) sb Hb Zb) c ((exec st X.env).wrap K J gd lv) fs s
end Sg
end

section
set_option Elab.async false
set_option linter.all false
set_option maxRecDepth 100000
set_option maxHeartbeats 1000000
/-! SgO: `yield` in a generator's body. -/
namespace Sg
open PySem PySem.Spec PyProof.Rows GenW L2 Sy
/-- a value that is a tree, where no cell is about -/
def qT (Γ : Tx) (Z : Addr → Prop) (H : Hp) (t : Sy.T) : V → Hp → Prop := fun b H' => ∃ Z', Ste Γ Z' [] [] H' ∧ Ext Z [] H Z' [] H' ∧ Rep Γ Z' (strip H') t b
theorem toT_len : ∀ {w : W} {μ μ' : Sto} {t : Sy.T}, toT w μ = .ok t μ' → μ'.length = μ.length
  | .t v, μ, μ', t, h => by cases h; rfl
  | .loc n, μ, μ', t, h => by
    have h : (match μ[n]? with | some e => R.ok e.c.tree (μ.set n ⟨e.c, e.lk, true⟩) | none => R.bad) = R.ok t μ' := h
    cases q : μ[n]? with
    | none => rw [q] at h; cases h
    | some e => rw [q] at h; cases h; rw [List.length_set]
theorem out_qT {Γ : Tx} {Z : Addr → Prop} {H : Hp} {w : W} {μ1 : Sto} {t : Sy.T} (h : toT w μ1 = .ok t []) : Out Γ (rpW Γ) Z [] H (.ok w μ1) (qT Γ Z H t) := by
  have hm : μ1 = [] := List.eq_nil_of_length_eq_zero (toT_len h).symm
  subst hm
  intro b H' Z' ad' s x r
  have ha : ad' = [] := List.eq_nil_of_length_eq_zero s.len
  subst ha
  cases w with
  | t v => cases h; exact ⟨Z', s, x, r⟩
  | loc n => obtain ⟨a, e, _⟩ := r; cases e
end Sg
end

section
set_option Elab.async false
set_option linter.all false
set_option maxRecDepth 100000
set_option maxHeartbeats 1000000
/-! SgP: `yield`. -/
namespace Sg
open PySem PySem.Spec PyProof.Rows GenW L2 Sy
theorem zs_yld {Γ : Tx} {X : L2.Cx} {e : Expr} {yp pos : Pos} {FE : Sy.Env → Sto → R W} (hx : X.xe = fun _ _ => False) (hcl : X.env.cells = []) (he : ∀ sb Hb ρ, SE Γ (reb X X.s_0.heap.objs.size sb Hb) ρ e (FE ρ))
    (hco : X.env.scope.isCoroutine = false) (hi : interactive X.env = false) : ZS Γ X (.Expr (.Yield (some e) yp) pos) fun ρ => (FE ρ []).outG fun w μ => (toT w μ).outG fun t μ => ([t], .nx ρ μ) := by
  intro A c fs K J gd lv ip rest sb Hb Zb s σ H Z ρ g hn a good k
  cases q : FE ρ [] with
  | exc _ _ => simp only [q, R.outG] at good; exact good.elim
  | bad => simp only [q, R.outG] at good; exact good.elim
  | ok w μ1 =>
    cases q2 : toT w μ1 with
    | exc _ _ => simp only [q, q2, R.outG] at good; exact good.elim
    | bad => simp only [q, q2, R.outG] at good; exact good.elim
    | ok t μ2 =>
      simp only [q, q2, R.outG] at good k ⊢
      have hm : μ2 = [] := good
      subst hm
      show Sgm _ A (EndW Γ X A (t :: rest) sb Hb Zb) c _ fs s
      refine sgm_Yield g.split g.gd ?_ hco hi
      rw [g.over]
      have run := (he sb Hb ρ []).run ip s σ H (qT Γ Z H t) a.inv ⟨Z, [], a.ste, a.slo, by rw [q]; exact out_qT q2⟩
      refine wpAny_mono run (fun v s' ⟨b, H1, I1, rv, Z1, ste1, x1, rep⟩ l kk p₀ hk => ?_) fun x s' h => ?_
      · have a1 : At Γ X ip sb Hb Zb s' σ H1 Z1 ρ := ⟨I1, ste1, a.slo.ext x1, a.ext.trans x1, a.hi⟩
        obtain ⟨m, ⟨ol, es, ep, hol, r⟩, _⟩ := I1.loc
        refine ⟨?_, H1, Z1, (X.env.locals, ol) :: (X.pn ++ ip), b, a1.told, fun q hq => ?_, fun q hq => List.mem_cons_of_mem _ (List.mem_append_left _ hq), rv, rep, ?_⟩
        · show (!(false || fs.any Frame.guarded)) = true
          rw [g.guard]; rfl
        · rcases List.mem_cons.mp hq with z | z
          · rw [z]
            have ab := I1.ok.above
            have ab : (cut X.s_0.heap.objs.size sb.heap).objs.size ≤ X.env.locals := ab
            rw [cut_size hn] at ab
            exact ⟨hol, I1.free, ab, fun v q => by have q2 := r.1; rw [q] at q2; cases q2⟩
          · exact ⟨(I1.pin q z).1, (I1.pin q z).2.1, a.hi q z, (I1.pin q z).2.2.2.2⟩
        · rw [slp_iff]
          intro s2 H2 Z2 w2
          exact hk _ s2 (k .next s2 H2 Z2 s2 σ H2 Z2 ρ w2.size (at_wake hcl hn a1 hol w2) (x1.wk.trans w2.wk) ⟨rfl, rfl⟩)
      · have : X.xe x s' := h
        rw [hx] at this
        exact this.elim
end Sg
end

section
set_option Elab.async false
set_option linter.all false
set_option maxRecDepth 100000
set_option maxHeartbeats 1000000
/-! SgQ: a generator's body: one after the other, if, plain statements. -/
namespace Sg
open PySem PySem.Spec PyProof.Rows GenW L2 Sy
def ZSs (Γ : Tx) (X : L2.Cx) (st : List Stmt) (F : Sy.Env → GO) : Prop :=
  ∀ (A : Around) (c : Code) (fs : List Frame) (K : Flow → Sem PySem.Fin) (J : Value → Sem PySem.Fin) (gd : Bool → Bool) (lv : List Value → List Value) (ip : Pin) (rest : List Sy.T) (sb : Shared) (Hb : Hp) (Zb : Addr → Prop) (s : Shared) (σ : L2.St) (H : Hp) (Z : Addr → Prop) (ρ : Sy.Env),
    GCt X A c fs gd → X.s_0.heap.objs.size ≤ sb.heap.objs.size → At Γ X ip sb Hb Zb s σ H Z ρ → goodO (F ρ).2 →
    (∀ f sb' Hb' Zb' s' σ' H' Z' ρ', X.s_0.heap.objs.size ≤ sb'.heap.objs.size → At Γ X ip sb' Hb' Zb' s' σ' H' Z' ρ' → Wkr Z H Z' H' → fits (F ρ).2 f ρ' → Sgm (model X.prog X.w) A (EndW Γ X A rest sb' Hb' Zb') c (K f) fs s') →
    Sgm (model X.prog X.w) A (EndW Γ X A ((F ρ).1 ++ rest) sb Hb Zb) c ((execs st X.env).wrap K J gd lv) fs s
section
variable {Γ : Tx} {X : L2.Cx} {st : Stmt} {sts : List Stmt} {F G : Sy.Env → GO}
theorem zss_nil : ZSs Γ X [] fun ρ => ([], .nx ρ []) := by
  intro A c fs K J gd lv ip rest sb Hb Zb s σ H Z ρ g hn a good k
  exact sgm_nil (k .next sb Hb Zb s σ H Z ρ hn a ⟨fun _ h => h, fun _ _ => rfl, fun _ _ _ h => h⟩ ⟨rfl, rfl⟩)
theorem zss_cons (h1 : ZS Γ X st F) (h2 : ZSs Γ X sts G) : ZSs Γ X (st :: sts) fun ρ => seq0 (F ρ) G := by
  intro A c fs K J gd lv ip rest sb Hb Zb s σ H Z ρ g hn a good k
  refine sgm_cons ?_
  have good : goodO (seq0 (F ρ) G).2 := good
  have k : ∀ f sb' Hb' Zb' s' σ' H' Z' ρ', X.s_0.heap.objs.size ≤ sb'.heap.objs.size → At Γ X ip sb' Hb' Zb' s' σ' H' Z' ρ' → Wkr Z H Z' H' → fits (seq0 (F ρ) G).2 f ρ' → Sgm (model X.prog X.w) A (EndW Γ X A rest sb' Hb' Zb') c (K f) fs s' := k
  show Sgm _ A (EndW Γ X A ((seq0 (F ρ) G).1 ++ rest) sb Hb Zb) c _ fs s
  have other : seq0 (F ρ) G = F ρ → (∀ r μ, (F ρ).2 ≠ .nx r μ) → Sgm (model X.prog X.w) A (EndW Γ X A ((seq0 (F ρ) G).1 ++ rest) sb Hb Zb) c ((exec st X.env).wrap (fun f => match f with | .next => (execs sts X.env).wrap K J gd lv | f => K f) J gd lv) fs s := fun e hne => by
    rw [e] at good k ⊢
    refine h1 A c fs _ J gd lv ip rest sb Hb Zb s σ H Z ρ g hn a good fun f sb' Hb' Zb' s' σ' H' Z' ρ' hn' a' wk' ft => ?_
    cases f with
    | next => cases q : (F ρ).2 <;> rw [q] at ft <;> first | exact absurd q (hne _ _) | exact ft.elim
    | brk => exact k .brk sb' Hb' Zb' s' σ' H' Z' ρ' hn' a' wk' ft
    | cont => exact k .cont sb' Hb' Zb' s' σ' H' Z' ρ' hn' a' wk' ft
    | ret v => exact k (.ret v) sb' Hb' Zb' s' σ' H' Z' ρ' hn' a' wk' ft
  cases q : (F ρ).2 with
  | nx r μ =>
    cases μ with
    | cons _ _ =>
      have e : seq0 (F ρ) G = ([], .bad) := by unfold seq0; rw [q]
      rw [e] at good; exact good.elim
    | nil =>
      have e : seq0 (F ρ) G = (G r).pre (F ρ).1 := by unfold seq0; rw [q]
      rw [e] at good k ⊢
      have e2 : ((G r).pre (F ρ).1).1 ++ rest = (F ρ).1 ++ ((G r).1 ++ rest) := by
        show ((F ρ).1 ++ (G r).1) ++ rest = _
        rw [List.append_assoc]
      rw [e2]
      refine h1 A c fs _ J gd lv ip _ sb Hb Zb s σ H Z ρ g hn a (by rw [q]; rfl) fun f sb' Hb' Zb' s' σ' H' Z' ρ' hn' a' wk' ft => ?_
      rw [q] at ft
      cases f with
      | next =>
        obtain ⟨_, e3⟩ := ft
        subst e3
        exact h2 A c fs K J gd lv ip rest sb' Hb' Zb' s' σ' H' Z' _ g hn' a' good fun f sb'' Hb'' Zb'' s'' σ'' H'' Z'' ρ'' hn'' a'' wk'' ft'' => k f sb'' Hb'' Zb'' s'' σ'' H'' Z'' ρ'' hn'' a'' (wk'.trans wk'') ft''
      | brk => exact ft.elim
      | cont => exact ft.elim
      | ret v => exact ft.elim
  | rt _ _ => exact other (by unfold seq0; rw [q]) fun r μ z => by rw [q] at z; cases z
  | bk _ _ => exact other (by unfold seq0; rw [q]) fun r μ z => by rw [q] at z; cases z
  | ct _ _ => exact other (by unfold seq0; rw [q]) fun r μ z => by rw [q] at z; cases z
  | ex _ _ => exact other (by unfold seq0; rw [q]) fun r μ z => by rw [q] at z; cases z
  | bad => exact other (by unfold seq0; rw [q]) fun r μ z => by rw [q] at z; cases z
end
end Sg
end

section
set_option Elab.async false
set_option linter.all false
set_option maxRecDepth 100000
set_option maxHeartbeats 1000000
/-! SgR: a generator's body: if, plain statements. -/
namespace Sg
open PySem PySem.Spec PyProof.Rows GenW L2 Sy
theorem ad_nil {Γ : Tx} {Z : Addr → Prop} {ad : List Addr} {H : Hp} (s : Ste Γ Z ad [] H) : ad = [] := List.eq_nil_of_length_eq_zero s.len
section
variable {Γ : Tx} {X : L2.Cx} {st : Stmt} {sts : List Stmt} {F G : Sy.Env → GO} {pos : Pos}
theorem zs_if {test : Expr} {sa sb : List Stmt} {FB : Sy.Env → Sto → R Bool} (hx : X.xe = fun _ _ => False) (hc : ∀ s H ρ, ST Γ (reb X X.s_0.heap.objs.size s H) ρ test (FB ρ)) (ha : ZSs Γ X sa F) (hb : ZSs Γ X sb G) :
    ZS Γ X (.If test sa sb pos) fun ρ => (FB ρ []).out0 fun z => match z with | true => F ρ | false => G ρ := by
  intro A c fs K J gd lv ip rest sb0 Hb Zb s σ H Z ρ g hn a good k
  cases q : FB ρ [] with
  | exc _ _ => simp only [q, R.out0] at good; exact good.elim
  | bad => simp only [q, R.out0] at good; exact good.elim
  | ok z μ =>
    cases μ with
    | cons _ _ => simp only [q, R.out0] at good; exact good.elim
    | nil =>
      simp only [q, R.out0] at good k ⊢
      refine sgm_If ?_
      rw [g.over]
      have run := (hc sb0 Hb ρ []).run ip s σ H (fun z' H' => z = z' ∧ ∃ Z', Ste Γ Z' [] [] H' ∧ Ext Z [] H Z' [] H') a.inv ⟨Z, [], a.ste, a.slo, by
        rw [q]
        intro z' H' Z' ad' s' x r
        have e := ad_nil s'
        subst e
        exact ⟨r, Z', s', x⟩⟩
      refine wpAny_mono run (fun z' s' ⟨H1, I1, ez, Z1, ste1, x1⟩ => ?_) fun x s' h => ?_
      · subst ez
        have a1 : At Γ X ip sb0 Hb Zb s' σ H1 Z1 ρ := ⟨I1, ste1, a.slo.ext x1, a.ext.trans x1, a.hi⟩
        cases z with
        | true => exact ha A c fs K J gd lv ip rest sb0 Hb Zb s' σ H1 Z1 ρ g hn a1 good fun f sb'' Hb'' Zb'' s'' σ'' H'' Z'' ρ'' hn'' a'' wk'' ft'' => k f sb'' Hb'' Zb'' s'' σ'' H'' Z'' ρ'' hn'' a'' (x1.wk.trans wk'') ft''
        | false => exact hb A c fs K J gd lv ip rest sb0 Hb Zb s' σ H1 Z1 ρ g hn a1 good fun f sb'' Hb'' Zb'' s'' σ'' H'' Z'' ρ'' hn'' a'' wk'' ft'' => k f sb'' Hb'' Zb'' s'' σ'' H'' Z'' ρ'' hn'' a'' (x1.wk.trans wk'') ft''
      · have : X.xe x s' := h
        rw [hx] at this
        exact this.elim
theorem zs_pl {FS : Sy.Env → Sto → O} (hx : X.xe = fun _ _ => False) (h : ∀ s H, SS Γ (reb X X.s_0.heap.objs.size s H) st FS) : ZS Γ X st fun ρ => ([], FS ρ []) := by
  intro A c fs K J gd lv ip rest sb0 Hb Zb s σ H Z ρ g hn a good k
  refine sgm_wrap ?_
  rw [g.over]
  have good : goodO (FS ρ []) := good
  have k : ∀ f sb' Hb' Zb' s' σ' H' Z' ρ', X.s_0.heap.objs.size ≤ sb'.heap.objs.size → At Γ X ip sb' Hb' Zb' s' σ' H' Z' ρ' → Wkr Z H Z' H' → fits (FS ρ []) f ρ' → Sgm (model X.prog X.w) A (EndW Γ X A rest sb' Hb' Zb') c (K f) fs s' := k
  have run := (h sb0 Hb ρ []).run ip s σ H
    { nx := fun σ' H' => ∃ r Z', FS ρ [] = .nx r [] ∧ Ste Γ Z' [] [] H' ∧ Ext Z [] H Z' [] H' ∧ Slo Γ Z' [] r σ' H'
      rt := fun _ _ => False
      bk := fun σ' H' => ∃ r Z', FS ρ [] = .bk r [] ∧ Ste Γ Z' [] [] H' ∧ Ext Z [] H Z' [] H' ∧ Slo Γ Z' [] r σ' H'
      ct := fun σ' H' => ∃ r Z', FS ρ [] = .ct r [] ∧ Ste Γ Z' [] [] H' ∧ Ext Z [] H Z' [] H' ∧ Slo Γ Z' [] r σ' H' } a.inv ⟨Z, [], a.ste, a.slo, by
        cases q : FS ρ [] with
        | nx r μ =>
          rw [q] at good
          have e : μ = [] := good
          subst e
          intro σ' H' Z' ad' s' x l
          have e := ad_nil s'
          subst e
          exact ⟨r, Z', rfl, s', x, l⟩
        | bk r μ =>
          rw [q] at good
          have e : μ = [] := good
          subst e
          intro σ' H' Z' ad' s' x l
          have e := ad_nil s'
          subst e
          exact ⟨r, Z', rfl, s', x, l⟩
        | ct r μ =>
          rw [q] at good
          have e : μ = [] := good
          subst e
          intro σ' H' Z' ad' s' x l
          have e := ad_nil s'
          subst e
          exact ⟨r, Z', rfl, s', x, l⟩
        | rt _ _ => rw [q] at good; exact good.elim
        | ex _ _ => rw [q] at good; exact good.elim
        | bad => rw [q] at good; exact good.elim⟩
  refine wpAny_mono run (fun f s' hs => ?_) fun x s' h => ?_
  · cases f with
    | next =>
      obtain ⟨σ', H', I', r, Z', e, s1, x1, l1⟩ := hs
      exact k .next sb0 Hb Zb s' σ' H' Z' r hn ⟨I', s1, l1, a.ext.trans x1, a.hi⟩ x1.wk (by rw [e]; exact ⟨rfl, rfl⟩)
    | brk =>
      obtain ⟨σ', H', I', r, Z', e, s1, x1, l1⟩ := hs
      exact k .brk sb0 Hb Zb s' σ' H' Z' r hn ⟨I', s1, l1, a.ext.trans x1, a.hi⟩ x1.wk (by rw [e]; exact ⟨rfl, rfl⟩)
    | cont =>
      obtain ⟨σ', H', I', r, Z', e, s1, x1, l1⟩ := hs
      exact k .cont sb0 Hb Zb s' σ' H' Z' r hn ⟨I', s1, l1, a.ext.trans x1, a.hi⟩ x1.wk (by rw [e]; exact ⟨rfl, rfl⟩)
    | ret v => obtain ⟨_, _, _, _, _, q⟩ := hs; exact q.elim
  · have : X.xe x s' := h
    rw [hx] at this
    exact this.elim
end
end Sg
end

section
set_option Elab.async false
set_option linter.all false
set_option maxRecDepth 100000
set_option maxHeartbeats 1000000
/-! SgS: a generator's body: for. -/
namespace Sg
open PySem PySem.Spec PyProof.Rows GenW L2 Sy
theorem wkr_refl {Z : Addr → Prop} {H : Hp} : Wkr Z H Z H := ⟨fun _ h => h, fun _ _ => rfl, fun _ _ _ h => h⟩
theorem At.unpin {Γ : Tx} {X : L2.Cx} {ip jp : Pin} {sb : Shared} {Hb : Hp} {Zb : Addr → Prop} {s : Shared} {σ : L2.St} {H : Hp} {Z : Addr → Prop} {ρ : Sy.Env} (a : At Γ X (ip ++ jp) sb Hb Zb s σ H Z ρ) : At Γ X ip sb Hb Zb s σ H Z ρ := ⟨a.inv.unpinned, a.ste, a.slo, a.ext, fun p hp => a.hi p ((List.mem_append.mp hp).elim (fun z => List.mem_append_left _ z) fun z => List.mem_append_right _ (List.mem_append_left _ z))⟩
theorem forG_cons {F : Sy.T → Sy.Env → GO} {dr : List Nat} {x : Sy.T} {xs : List Sy.T} {ρ : Sy.Env} : forG F dr (x :: xs) ρ = match (F x ρ).2 with
    | .nx ρ' [] => (forG F dr xs (unset ρ' dr)).pre (F x ρ).1
    | .ct ρ' [] => (forG F dr xs (unset ρ' dr)).pre (F x ρ).1
    | .bk ρ' [] => ((F x ρ).1, .nx (unset ρ' dr) [])
    | _ => ([], .bad) := rfl
section
variable {Γ : Tx} {X : L2.Cx} {tg iter : Expr} {sts : List Stmt} {F G : Sy.Env → GO} {pos : Pos} {sl : List Nat}
theorem zs_for {dr : List Nat} {FI : Sy.Env → Sto → R (List Sy.T)} {FG : W → Sy.Env → Sto → R Sy.Env} {FS : Sy.Env → GO} {BF : Sy.T → Sy.Env → GO} (hBF : ∀ x ρ, BF x ρ = (FG (.t x) ρ []).out0 FS) (hx : X.xe = fun _ _ => False) (hex : X.ex = []) (hc : X.calm = true)
    (hi : ∀ s H ρ, SI Γ (reb X X.s_0.heap.objs.size s H) ρ tg iter (FI ρ)) (hg : ∀ s H, SGt Γ (reb X X.s_0.heap.objs.size s H) sl tg FG) (hb : ZSs Γ X sts FS) (hs : ∀ x, foldedSetIterable iter X.env x = pure x) :
    ZS Γ X (.For tg iter sts [] pos) fun ρ => (FI ρ []).out0 fun xs => forG BF dr xs ρ := by
  intro A c fs K J gd lv ip rest sb0 Hb0 Zb0 s σ H Z ρ g hn0 a good k
  cases q : FI ρ [] with
  | exc _ _ => simp only [q, R.out0] at good; exact good.elim
  | bad => simp only [q, R.out0] at good; exact good.elim
  | ok xs μ =>
    cases μ with
    | cons _ _ => simp only [q, R.out0] at good; exact good.elim
    | nil =>
      simp only [q, R.out0] at good k ⊢
      have no : ∀ x s', X.xe x s' → False := fun x s' h => by rw [hx] at h; exact h
      refine sgm_For ?_ hs
      rw [g.over]
      have run := (hi sb0 Hb0 ρ []).run ip s σ H (fun J H' => ∃ Z', Ste Γ Z' [] [] H' ∧ Ext Z [] H Z' [] H' ∧ rpI Γ Z' [] H' xs J) a.inv ⟨Z, [], a.ste, a.slo, by
        rw [q]
        intro J H' Z' ad' s' x r
        have e := ad_nil s'
        subst e
        exact ⟨Z', s', x, r⟩⟩
      refine wpAny_mono run (fun v s1 h1 => wpAny_mono h1 (fun itv s2 h2 p => ?_) fun x s' h => (no x s' h).elim) fun x s' h => (no x s' h).elim
      obtain ⟨it, fp, tn, JJ, H2, e, I2, T, st2, f2, Z2, ste2, x2, items⟩ := h2
      subst e
      have gl := gct_loop (k := fun r => ((match r with | .ok f => (.pure f : Sem Flow) | .error e => .raise e).onRaise (L2.cameBack X.env)).wrap K J gd lv) (c' := .forLoop tg (.ref it) sts [] X.env) (l := lv []) (kp := []) (p := p) g rfl rfl
      have f0 : ∀ {sb : Shared} {Hb H : Hp}, X.s_0.heap.objs.size ≤ sb.heap.objs.size → (∀ b ∈ fp, H b = none) → ∀ b ∈ fp, FpOk (reb X X.s_0.heap.objs.size sb Hb) ip H b := fun {sb Hb H} hn fr b hb => by
        obtain ⟨_, q2, q3, q4, q5⟩ := f2 b hb
        have e1 : (cut X.s_0.heap.objs.size sb0.heap).objs.size = X.s_0.heap.objs.size := cut_size hn0
        have e2 : (cut X.s_0.heap.objs.size sb.heap).objs.size = X.s_0.heap.objs.size := cut_size hn
        have q4 : b ∈ X.ex ∨ (cut X.s_0.heap.objs.size sb0.heap).objs.size ≤ b := q4
        refine ⟨fr b hb, q2, q3, ?_, q5⟩
        show b ∈ X.ex ∨ (cut X.s_0.heap.objs.size sb.heap).objs.size ≤ b
        rw [e2]; rw [e1] at q4; exact q4
      have loop : ∀ (m i : Nat) (sb : Shared) (Hb : Hp) (Zb : Addr → Prop) (s : Shared) (σ : L2.St) (H : Hp) (Z' : Addr → Prop) (ρ : Sy.Env), i + m = xs.length → X.s_0.heap.objs.size ≤ sb.heap.objs.size → At Γ X ip sb Hb Zb s σ H Z' ρ → tn i s.heap → (∀ b ∈ fp, H b = none) → Wkr Z2 H2 Z' H →
          goodO (forG BF dr (xs.drop i) ρ).2 →
          (∀ f sb' Hb' Zb' s' σ' H' Z' ρ', X.s_0.heap.objs.size ≤ sb'.heap.objs.size → At Γ X ip sb' Hb' Zb' s' σ' H' Z' ρ' → Wkr Z2 H2 Z' H' → fits (forG BF dr (xs.drop i) ρ).2 f ρ' → Sgm (model X.prog X.w) A (EndW Γ X A rest sb' Hb' Zb') c (K f) fs s') →
          Sgm (model X.prog X.w) A (EndW Γ X A ((forG BF dr (xs.drop i) ρ).1 ++ rest) sb Hb Zb) (.forLoop tg (.ref it) sts [] X.env) ((model X.prog X.w).den (.forLoop tg (.ref it) sts [] X.env))
            (.ret (fun r => ((match r with | .ok f => (.pure f : Sem Flow) | .error e => .raise e).onRaise (L2.cameBack X.env)).wrap K J gd lv) none (gd false) (lv []) c p [] :: fs) s := by
        intro m
        induction m with
        | zero =>
          intro i sb Hb Zb s σ H Z' ρ him hn a st fr wk good k
          have hi : i = xs.length := by omega
          subst hi
          rw [List.drop_length] at good k ⊢
          obtain ⟨_, w2, _⟩ := items Z' [] [] H a.ste wk
          refine sgm_forLoop ?_ rfl
          rw [gl.over]
          refine wpAny_mono (T.done (reb X X.s_0.heap.objs.size sb Hb) rfl rfl rfl hc _ ip s σ H (fun _ _ => False) a.inv (f0 hn fr) st w2) (fun r s4 ⟨hr, I4⟩ => ?_) fun x s' h => h.elim
          subst hr
          refine sgm_again (c' := .block [] X.env) rfl ?_
          show Sgm _ A _ _ (leafOf (.ok .next)) _ s4
          exact sgm_leaf (.ok .next) (k .next sb Hb Zb s4 σ H Z' ρ hn ⟨I4, a.ste, a.slo, a.ext, a.hi⟩ wk ⟨rfl, rfl⟩)
        | succ m ih =>
          intro i sb Hb Zb s σ H Z' ρ him hn a st fr wk good k
          have hlt : i < xs.length := by omega
          have e1 : xs.drop i = xs[i] :: xs.drop (i + 1) := List.drop_eq_getElem_cons hlt
          obtain ⟨w1, _, w3⟩ := items Z' [] [] H a.ste wk
          refine sgm_forLoop ?_ rfl
          rw [gl.over]
          refine wpAny_mono (T.item (reb X X.s_0.heap.objs.size sb Hb) rfl rfl rfl hc i ip s σ H (fun _ _ => False) a.inv (f0 hn fr) st (w1 i hlt)) (fun r s4 ⟨u, hr, h4⟩ => ?_) fun x s' h => h.elim
          subst hr
          refine wpAny_mono h4 (fun _ s5 ⟨x, H5, I5, r5, y5, st5, fr5⟩ => ?_) fun x s' h => h.elim
          obtain ⟨Z5, ste5, x5, rep5⟩ := w3 i xs[i] x H5 (List.getElem?_eq_getElem hlt) y5
          have I5' := I5.pinned (f0 (Hb := Hb) hn fr5) (T.obj _ _ st5)
          have slo5 : Slo Γ Z5 [] ρ σ H5 := a.slo.ext x5
          rw [e1, forG_cons, hBF] at good k ⊢
          cases q5 : FG (.t xs[i]) ρ [] with
          | exc _ _ => simp only [q5, R.out0] at good; exact good.elim
          | bad => simp only [q5, R.out0] at good; exact good.elim
          | ok ρ6 μ6 =>
            cases μ6 with
            | cons _ _ => simp only [q5, R.out0] at good; exact good.elim
            | nil =>
              simp only [q5, R.out0] at good k ⊢
              have run := (hg sb Hb (.t xs[i]) ρ []).run (ip ++ pinsAt fp s5.heap) s5 σ H5 x u (fun σ6 H6 => ∃ Z6, Ste Γ Z6 [] [] H6 ∧ Ext Z5 [] H5 Z6 [] H6 ∧ Slo Γ Z6 [] ρ6 σ6 H6) I5' r5 ⟨Z5, [], ste5, slo5, rep5, by
                rw [q5]
                intro σ6 H6 Z6 ad6 s6 x6 r6
                have e := ad_nil s6
                subst e
                exact ⟨Z6, s6, x6, r6.1⟩⟩
              refine wpAny_mono run (fun _ s6 ⟨σ6, H6, I6, Z6, ste6, x6, slo6⟩ => ?_) fun x s' h => (no x s' h).elim
              have hiP : ∀ p ∈ X.pn ++ (ip ++ pinsAt fp s5.heap), X.s_0.heap.objs.size ≤ p.1 := fun p hp => by
                rcases List.mem_append.mp hp with z | z
                · exact a.hi p (List.mem_append_left _ z)
                · rcases List.mem_append.mp z with z | z
                  · exact a.hi p (List.mem_append_right _ z)
                  · have q4 := (f0 (Hb := Hb) hn fr5 p.1 (of_pinsAt z).1).2.2.2.1
                    have q4 : p.1 ∈ X.ex ∨ (cut X.s_0.heap.objs.size sb.heap).objs.size ≤ p.1 := q4
                    rw [cut_size hn, hex] at q4
                    exact q4.resolve_left (by simp)
              have a6 : At Γ X (ip ++ pinsAt fp s5.heap) sb Hb Zb s6 σ6 H6 Z6 ρ6 := ⟨I6, ste6, slo6, (a.ext.trans x5).trans x6, hiP⟩
              have wk6 : Wkr Z2 H2 Z6 H6 := wk.trans ((x5.trans x6).wk)
              have good6 : goodO (FS ρ6).2 := by
                cases h : (FS ρ6).2 with
                | nx r μ => cases μ with
                  | nil => rfl
                  | cons _ _ => simp only [h] at good; exact good.elim
                | ct r μ => cases μ with
                  | nil => rfl
                  | cons _ _ => simp only [h] at good; exact good.elim
                | bk r μ => cases μ with
                  | nil => rfl
                  | cons _ _ => simp only [h] at good; exact good.elim
                | rt _ _ => simp only [h] at good; exact good.elim
                | ex _ _ => simp only [h] at good; exact good.elim
                | bad => simp only [h] at good; exact good.elim
              -- what stands of the iterator behind the body
              have tnK : ∀ {sb7 : Shared} {Hb7 : Hp} {Zb7 : Addr → Prop} {s7 : Shared} {σ7 : L2.St} {H7 : Hp} {Z7 : Addr → Prop} {ρ7 : Sy.Env}, At Γ X (ip ++ pinsAt fp s5.heap) sb7 Hb7 Zb7 s7 σ7 H7 Z7 ρ7 → tn (i + 1) s7.heap ∧ ∀ b ∈ fp, H7 b = none := fun {sb7 Hb7 Zb7 s7 σ7 H7 Z7 ρ7} a7 => by
                refine ⟨T.keep _ _ _ st5 fun b hb o e => (a7.inv.pin (b, o) (List.mem_append_right _ (List.mem_append_right _ (mem_pinsAt hb e)))).1, fun b hb => ?_⟩
                obtain ⟨o, e, d⟩ := T.obj _ _ st5 b hb
                exact (a7.inv.pin (b, o) (List.mem_append_right _ (List.mem_append_right _ (mem_pinsAt hb e)))).2.1
              have unsetAt : ∀ {sb7 : Shared} {Hb7 : Hp} {Zb7 : Addr → Prop} {s7 : Shared} {σ7 : L2.St} {H7 : Hp} {Z7 : Addr → Prop} {ρ7 : Sy.Env}, At Γ X (ip ++ pinsAt fp s5.heap) sb7 Hb7 Zb7 s7 σ7 H7 Z7 ρ7 → At Γ X ip sb7 Hb7 Zb7 s7 σ7 H7 Z7 (unset ρ7 dr) := fun a7 => ⟨a7.unpin.inv, a7.ste, a7.slo.unset dr, a7.ext, a7.unpin.hi⟩
              have gl2 : GCt X A (.forLoop tg (.ref it) sts [] X.env) (.ret (fun r => ((match r with | .ok f => (.pure f : Sem Flow) | .error e => .raise e).onRaise (L2.cameBack X.env)).wrap K J gd lv) none (gd false) (lv []) c p [] :: fs) id := gl
              have bodyRun := fun todo => hb A (.forLoop tg (.ref it) sts [] X.env) (.ret (fun r => ((match r with | .ok f => (.pure f : Sem Flow) | .error e => .raise e).onRaise (L2.cameBack X.env)).wrap K J gd lv) none (gd false) (lv []) c p [] :: fs) (forK tg (.ref it) sts [] X.env) (XH X.env) id id (ip ++ pinsAt fp s5.heap) todo sb Hb Zb s6 σ6 H6 Z6 ρ6 gl2 hn a6 good6
              cases h : (FS ρ6).2 with
              | nx r μ =>
                cases μ with
                | cons _ _ => simp only [h] at good; exact good.elim
                | nil =>
                  simp only [h] at good k ⊢
                  rw [show ((forG BF dr (xs.drop (i + 1)) (unset r dr)).pre (FS ρ6).1).1 ++ rest = (FS ρ6).1 ++ ((forG BF dr (xs.drop (i + 1)) (unset r dr)).1 ++ rest) from by
                    show ((FS ρ6).1 ++ _) ++ rest = _
                    rw [List.append_assoc]]
                  refine bodyRun _ fun f sb7 Hb7 Zb7 s7 σ7 H7 Z7 ρ7 hn7 a7 wk7 ft => ?_
                  rw [h] at ft
                  cases f with
                  | next =>
                    obtain ⟨_, e⟩ := ft
                    subst e
                    obtain ⟨t1, t2⟩ := tnK a7
                    exact sgm_again rfl (ih (i + 1) sb7 Hb7 Zb7 s7 σ7 H7 Z7 _ (by omega) hn7 (unsetAt a7) t1 t2 (wk6.trans wk7) good k)
                  | brk => exact ft.elim
                  | cont => exact ft.elim
                  | ret v => exact ft.elim
              | ct r μ =>
                cases μ with
                | cons _ _ => simp only [h] at good; exact good.elim
                | nil =>
                  simp only [h] at good k ⊢
                  rw [show ((forG BF dr (xs.drop (i + 1)) (unset r dr)).pre (FS ρ6).1).1 ++ rest = (FS ρ6).1 ++ ((forG BF dr (xs.drop (i + 1)) (unset r dr)).1 ++ rest) from by
                    show ((FS ρ6).1 ++ _) ++ rest = _
                    rw [List.append_assoc]]
                  refine bodyRun _ fun f sb7 Hb7 Zb7 s7 σ7 H7 Z7 ρ7 hn7 a7 wk7 ft => ?_
                  rw [h] at ft
                  cases f with
                  | cont =>
                    obtain ⟨_, e⟩ := ft
                    subst e
                    obtain ⟨t1, t2⟩ := tnK a7
                    exact sgm_again rfl (ih (i + 1) sb7 Hb7 Zb7 s7 σ7 H7 Z7 _ (by omega) hn7 (unsetAt a7) t1 t2 (wk6.trans wk7) good k)
                  | brk => exact ft.elim
                  | next => exact ft.elim
                  | ret v => exact ft.elim
              | bk r μ =>
                cases μ with
                | cons _ _ => simp only [h] at good; exact good.elim
                | nil =>
                  simp only [h] at good k ⊢
                  refine bodyRun _ fun f sb7 Hb7 Zb7 s7 σ7 H7 Z7 ρ7 hn7 a7 wk7 ft => ?_
                  rw [h] at ft
                  cases f with
                  | brk =>
                    obtain ⟨_, e⟩ := ft
                    subst e
                    show Sgm _ A _ _ (leafOf (.ok .next)) _ s7
                    exact sgm_leaf (.ok .next) (k .next sb7 Hb7 Zb7 s7 σ7 H7 Z7 _ hn7 (unsetAt a7) (wk6.trans wk7) ⟨rfl, rfl⟩)
                  | cont => exact ft.elim
                  | next => exact ft.elim
                  | ret v => exact ft.elim
              | rt _ _ => simp only [h] at good; exact good.elim
              | ex _ _ => simp only [h] at good; exact good.elim
              | bad => simp only [h] at good; exact good.elim
      exact loop xs.length 0 sb0 Hb0 Zb0 s2 σ H2 Z2 ρ (Nat.zero_add _) hn0 ⟨I2, ste2, a.slo.ext x2, a.ext.trans x2, a.hi⟩ st2 (fun b hb => (f2 b hb).1) wkr_refl (by rw [List.drop_zero]; exact good) fun f sb' Hb' Zb' s' σ' H' Z' ρ' h1 h2 h3 h4 => k f sb' Hb' Zb' s' σ' H' Z' ρ' h1 h2 (x2.wk.trans h3) (by rw [List.drop_zero] at h4; exact h4)
end
end Sg
end

section
set_option Elab.async false
set_option linter.all false
set_option maxRecDepth 100000
set_option maxHeartbeats 1000000
/-! SgT: a generator's def: its call, its first wake. -/
namespace Sg
open PySem PySem.Spec PyProof.Rows GenW L2 Sy
open Sem (wp)
def scG (N P : List Str) (sc : Scope) : Bool :=
  decide (sc.kind = .function) && !sc.isCoroutine && sc.isGenerator && decide N.Nodup && decide (N.take P.length = P) && P.all (fun x => decide (sc.names.lookup x = some .local)) && sc.names.all (fun y => !decide (y.2 = .free) && !decide (y.2 = .cell))
theorem scG_by {N P : List Str} {sc : Scope} (h : scG N P sc = true) : GScope N P sc ∧ ∀ y ∈ sc.names, y.2 ≠ .cell := by
  unfold scG at h
  simp only [Bool.and_eq_true, Bool.not_eq_true', decide_eq_true_eq, List.all_eq_true, decide_eq_false_iff_not] at h
  obtain ⟨⟨⟨⟨⟨⟨h1, h2⟩, h3⟩, h4⟩, h5⟩, h6⟩, h7⟩ := h
  exact ⟨⟨h1, h2, h3, h4, h5, fun x hx => .inl (h6 x hx), fun y hy => (h7 y hy).1⟩, fun y hy => (h7 y hy).2⟩
theorem cells_nil : ∀ {l : List (Str × NameKind)} {n : Nat}, (∀ y ∈ l, y.2 ≠ .cell) → cellsFrom n l [] = []
  | [], _, _ => rfl
  | (x, k) :: r, n, h => by
    have hk : (k == NameKind.cell) = false := by
      have := h (x, k) List.mem_cons_self
      cases k <;> first | rfl | exact absurd rfl this
    show (if (k == NameKind.cell) = true then cellsFrom (n + 1) r [(x, n)] else cellsFrom n r []) = []
    rw [hk, if_neg (by decide)]
    exact cells_nil fun y hy => h y (List.mem_cons_of_mem _ hy)
section
variable {prog : Program} {w : World} {A : Around} {P : End → Shared → Prop} {fs : List Frame} {s : Shared} {env : PySem.Env}
theorem sgm_func {body : List Stmt}
    (h : Sgm (model prog w) A P (.func body env) ((execs body env).wrap (fun f => .pure (.done (.ret (match f with | .ret v => v | _ => .none))))
      (fun e => (leaving env e).wrap (fun _ => .raise e) .raise id id) id id) fs s) :
    Sgm (model prog w) A P (.func body env) ((model prog w).den (.func body env)) fs s := by
  show Sgm _ A P _ (.point [] fun _ => ((execs body env).onRaise (leaving env)) >>= _) fs s
  refine sgm_point ?_
  rw [Sem.onRaise_eq_wrap, Sem.bind_eq_wrap', Sem.wrap_wrap]
  rw [Sem.wrap_congr (execs body env) _ _ (K' := fun f => .pure (.done (.ret (match f with | .ret v => v | _ => .none))))
    (H' := fun e => (leaving env e).wrap (fun _ => .raise e) .raise id id) (fun f => by cases f <;> rfl)
    (fun e => by rw [Sem.bind_eq_wrap, Sem.wrap_wrap]; rfl)]
  exact h
end
/-- the context of a generator's body -/
def gX (P : Program) (w : World) (K : PySem.W.Frag) (mg : Str → Option Value) (base : Heap) (N : List Str) (qual : Str) (scope : Scope) (f : Addr) (cd : Value) (A : Around) (outer : List PySem.Env) (s : Shared) (H : Hp) (pn : Pin) : L2.Cx :=
  { cxOf C8.CX0 P w K mg base N qual scope f cd A outer s H (fun _ _ _ => False) with pn := pn, xe := fun _ _ => False }
/-- what a call of a generator's def gives: k: the room that a wake needs -/
structure GMad (Γ : Tx) (P : Program) (w : World) (base : Heap) (k : Nat) (outer : List PySem.Env) (H : Hp) (Z : Addr → Prop) (s : Shared) (ys : List Sy.T) (a g : Nat) (go : Obj) (c : Code) (priv : Pin) (s' : Shared) : Prop where
  la : s.heap.objs.size ≤ a
  isg : ∀ h : Heap, h.get? a = some go → h.IsGen a g
  gn : s'.gens[g]? = some (.fresh c)
  os : s'.os = s.os
  bare : AllBare s'.gens
  kept : ∀ b o, s.heap.get? b = some o → s'.heap.get? b = some o
  mem : (a, go) ∈ priv
  pr : ∀ p ∈ priv, s'.heap.get? p.1 = some p.2 ∧ s.heap.objs.size ≤ p.1 ∧ ∀ v, p.2.data ≠ .cell v
  slp : ∀ Aw : Around, Room k Aw → Aw.frames = some outer → ∃ X : L2.Cx, X.prog = P ∧ X.w = w ∧ X.base = base ∧ X.outer = outer ∧ X.s_0.heap.objs.size = s.heap.objs.size ∧ X.ex = [] ∧ X.pn = [(a, go)] ∧ Slp Γ X Aw ys (.fresh c) priv Z H
/-- a generator's def keeps its promise -/
structure GFnS (Γ : Tx) (P : Program) (w : World) (K : PySem.W.Frag) (mg : Str → Option Value) (base : Heap) (k : Nat) (f : Addr) (fd : FuncData) (ps : List Str) (gen : List Sy.T → Option (List Sy.T)) : Prop where
  len : ∀ ts ys, gen ts = some ys → ts.length = ps.length
  run : ∀ (A : Around) (outer : List PySem.Env) (s : Shared) (H : Hp) (args : Args) (us : List Value) (vs : List V) (Z : Addr → Prop) (ts ys : List Sy.T), A.depth < recursionLimit → Env0 P w K mg base A outer s H → BindsTo s fd args (ps.zip us) → Vals vs us → Ste Γ Z [] [] H → Reps Γ Z (strip H) ts vs → gen ts = some ys →
    codeAny (model P w) A (.call (.ref f) args) (fun r s' => match r with | .ok (.ret u) => ∃ a g go c priv, u = .ref a ∧ GMad Γ P w base k outer H Z s ys a g go c priv s' | _ => False) s
theorem slo_startG {Γ : Tx} {Z : Addr → Prop} {H : Hp} {ts : List Sy.T} {vs : List V} {N : List Str} (r : Reps Γ Z (strip H) ts vs) {m : Nat} (hl : ts.length + m = N.length) : Slo Γ Z [] (ts.map (fun t => some (W.t t)) ++ List.replicate m none) (L2.start N vs) H := by
  have hv := r.length
  refine ⟨?_, fun i x h => ?_⟩
  · unfold L2.start
    rw [List.length_append, List.length_map, List.length_replicate, List.length_append, List.length_map, List.length_replicate]
    omega
  · by_cases hi : i < ts.length
    · rw [List.getElem?_append_left (by rw [List.length_map]; exact hi), List.getElem?_map, List.getElem?_eq_getElem hi] at h
      cases h
      obtain ⟨v, h1, h2⟩ := reps_get r (List.getElem?_eq_getElem hi)
      refine ⟨v, ?_, h2⟩
      unfold L2.start
      rw [List.getElem?_append_left (by rw [List.length_map, ← hv]; exact hi), List.getElem?_map, h1]
      rfl
    · rw [List.getElem?_append_right (by rw [List.length_map]; omega), List.getElem?_replicate] at h
      split at h <;> cases h
/-- THE RULE: a generator's def, by its body -/
theorem gfnS_of {Γ : Tx} {P : Program} {w : World} {K : PySem.W.Frag} {mg : Str → Option Value} {base : Heap} {k : Nat} {nm0 qual : Str} {params : Arguments} {body : List Stmt} {scope : Scope} {dvs : List V} {kws : List (Str × V)} {f : Addr} {fd : FuncData} {N ps : List Str} {gen : List Sy.T → Option (List Sy.T)}
    {F : Sy.Env → GO} (FD : FunD K nm0 qual params body scope dvs kws f fd) (S : GScope N ps scope) (hnc : ∀ y ∈ scope.names, y.2 ≠ .cell) (len : ∀ ts ys, gen ts = some ys → ts.length = ps.length)
    (hgen : ∀ ts ys, gen ts = some ys → ∃ r, F (ts.map (fun t => some (W.t t)) ++ List.replicate (N.length - ps.length) none) = (ys, .nx r []))
    (hbody : ∀ (cdv : Value) (A : Around) (outer : List PySem.Env) (s : Shared) (H : Hp) (pn : Pin), Room k (A.deeper (envOfC qual scope s.heap.objs.size f cdv)) → ZSs Γ (gX P w K mg base N qual scope f cdv A outer s H pn) body F) :
    GFnS Γ P w K mg base (k + 1) f fd ps gen := by
  refine ⟨len, fun A outer s H args us vs Z ts ys hdep e0 hb r ste rep hg => ?_⟩
  obtain ⟨oc, od, dV, kV, doc, pm, an, cdv, ct, osl, rfl, lk, hcd, _, _⟩ := FD.ex
  have hl : vs.length = ps.length := by rw [← rep.length]; exact len _ _ hg
  have KX : K.In s.heap := e0.mod.kin.keeps fun b o e => (e0.bs b o e).1
  have lim : s.heap.NoLimit := e0.mod.nolimit.keeps fun b o e => (e0.bs b o e).1
  have hpl : ps.length ≤ N.length := by have := congrArg List.length S.pre; rw [List.length_take] at this; omega
  have hkind : ∀ y ∈ ps.zip us, scope.names.lookup y.1 = some .local ∨ (scope.names.lookup y.1 = some .cell ∧ ((cellsFrom (s.heap.objs.size + 1) scope.names []).lookup y.1).isSome = true) := fun ⟨n, v⟩ hy => by
    rcases S.par n (List.of_mem_zip hy).1 with q | q
    · exact .inl q
    · exact .inr ⟨q, PySem.W.cellsFrom_some _ _ _ (.inl q)⟩
  refine codeAny_call_generator hdep (KX _ _ lk) rfl S.co S.gen rfl (PySem.W.codeRec_of KX hcd) (hb _ _ _ _ ?_)
  refine wpAny_newFunctionEnv_cells S.kind hkind fun env he s1 x => ?_
  subst he
  have lim1 : s1.heap.NoLimit := lim.keeps x.toInCall.keep
  refine ⟨lim1, ?_⟩
  obtain ⟨h1, tk, es1, hk1⟩ := x.done
  have os1 : s1.os = s.os := by rw [es1]
  have gen1 : s1.gens = s.gens := by rw [es1]
  have lt1 : s.heap.objs.size < s1.heap.objs.size := x.toInCall.ns.lt
  have sz1 : s.heap.objs.size ≤ s1.heap.objs.size := Nat.le_of_lt lt1
  have kp1 : ∀ b o, s.heap.get? b = some o → s1.heap.get? b = some o := x.toInCall.keep
  have hcn : ∀ n, cellsFrom n scope.names [] = [] := fun n => cells_nil hnc
  have main : ∀ (go : Obj) (nm qn : Value) (tk2 : Nat), go.cls = .type "generator" → go.data = .fields #[.int s1.gens.size 0, nm, qn] → go.slots = #[] → (∀ h : Heap, (h.push go).get? h.objs.size = some go) →
      ∃ a g go1 c priv, Value.ref s1.heap.objs.size = .ref a ∧ GMad Γ P w base (k + 1) outer H Z s ys a g go1 c priv { s1 with gens := s1.gens.push (.fresh (.func body (envOfC qual scope s.heap.objs.size f cdv))), toks := tk2, heap := s1.heap.push go } := by
    intro go nm qn tk2 hgc hgd0 hgs hgp
    have hgen' : ∀ h : Heap, h.get? s1.heap.objs.size = some go → h.IsGen s1.heap.objs.size s1.gens.size := fun h e => ⟨go, nm, qn, e, hgc, hgd0, hgs⟩
    have hpushed : (s1.heap.push go).get? s1.heap.objs.size = some go := hgp _
    have hgd : ∀ v, go.data ≠ .cell v := fun v q => by rw [hgd0] at q; cases q
    obtain ⟨ol, es, ep, hol, hod, _⟩ := id x.toInCall.ns
    have k2 : ∀ b o, s1.heap.get? b = some o → (s1.heap.push go).get? b = some o := fun b o e => Heap.get?_push_of_some _ e
    refine ⟨s1.heap.objs.size, s1.gens.size, go, .func body (envOfC qual scope s.heap.objs.size f cdv), [(s.heap.objs.size, ol), (s1.heap.objs.size, go)], rfl, sz1, hgen', Array.getElem?_push_size .., os1, ?_, fun b o e => k2 b o (kp1 b o e), by simp, fun p hp => ?_, fun Aw hrw hfr => ?_⟩
    · exact AllBare.push (by rw [gen1]; exact e0.bare) rfl
    · rcases List.mem_cons.mp hp with z | z
      · rw [z]; exact ⟨k2 _ _ hol, Nat.le_refl _, fun v q => by rw [hod] at q; cases q⟩
      · rw [List.mem_singleton.mp z]; exact ⟨hpushed, sz1, hgd⟩
    have e0w : Env0 P w K mg base Aw outer s H := ⟨hfr, e0.mod, e0.bs, e0.bsz, e0.funs, e0.frf, e0.hok, e0.bare⟩
    have I1 : Inv (gcxOf P w K mg base N qual scope f cdv Aw outer s H (fun _ _ _ => False) []) [] (L2.start N vs) H s1 := inv_startG S hrw.hd e0w hl r x
    obtain ⟨rho, hF⟩ := hgen ts ys hg
    have hB := hbody cdv Aw outer s H [(s1.heap.objs.size, go)] (hrw.deeper _)
    have y1 : H s1.heap.objs.size = none := I1.hok.fresh (Nat.le_refl _)
    have y2 : s1.heap.objs.size ≠ s.heap.objs.size := Nat.ne_of_gt lt1
    have y3 : s1.heap.objs.size ∉ frs outer := I1.nofs (Nat.le_refl _)
    have I2 : Inv (gcxOf P w K mg base N qual scope f cdv Aw outer s H (fun _ _ _ => False) []) [] (L2.start N vs) H { s1 with heap := s1.heap.push go } := I1.kept (t' := s1.toks) k2
    have I3 : Inv (gX P w K mg base N qual scope f cdv Aw outer s H [(s1.heap.objs.size, go)]) [] (L2.start N vs) H { s1 with heap := s1.heap.push go } :=
      ⟨⟨I2.ok.mod, I2.ok.kind, I2.ok.glob, I2.ok.blt, I2.ok.above, I2.ok.inj, I2.ok.has, I2.ok.cab, I2.ok.hd, I2.ok.frames, I2.ok.stk, I2.ok.exf, I2.ok.bs, I2.ok.bsz, I2.ok.noex, I2.ok.exfs, I2.ok.funs, I2.ok.frf⟩, I2.os, I2.bare, I2.base, I2.loc, I2.cell, I2.free, I2.freeC, fun p hp => by
        rcases List.mem_append.mp hp with z | z
        · rw [List.mem_singleton.mp z]
          exact ⟨hpushed, y1, y2, y3, hgd⟩
        · exact absurd z (by simp), I2.hok, I2.len⟩
    refine ⟨gX P w K mg base N qual scope f cdv Aw outer s H [(s1.heap.objs.size, go)], rfl, rfl, rfl, rfl, rfl, rfl, rfl, ?_⟩
    rw [slp_iff]
    intro s' H' Z' wk
    show Sgm _ Aw _ (.func body (envOfC qual scope s.heap.objs.size f cdv)) _ [] s'
    refine sgm_func ?_
    have wl := wk.priv (s.heap.objs.size, ol) List.mem_cons_self
    have I4 := inv_reb (n := s.heap.objs.size) I3 rfl wk.size wk.bare wk.base wk.funs wk.frf ⟨wl.1.trans (k2 _ _ hol).symm, wl.2⟩ (fun y c e => by
      have e : (cellsFrom (s.heap.objs.size + 1) scope.names []).lookup y = some c := e
      rw [hcn] at e; cases e) (fun p hp => wk.priv p (by
      have hp : p ∈ [(s1.heap.objs.size, go)] ++ [] := hp
      rw [List.append_nil] at hp
      exact List.mem_cons_of_mem _ hp)) wk.hok
    have a4 : At Γ (gX P w K mg base N qual scope f cdv Aw outer s H [(s1.heap.objs.size, go)]) [] s' H' Z' s' (L2.start N vs) H' Z' (ts.map (fun t => some (W.t t)) ++ List.replicate (N.length - ps.length) none) := by
      refine ⟨I4, wk.ste, slo_startG (Reps.mono wk.wk.zs wk.wk.zk _ _ rep) ?_, Ext.refl wk.ste, fun p hp => ?_⟩
      · have := rep.length
        omega
      · have hp : p ∈ [(s1.heap.objs.size, go)] ++ [] := hp
        rw [List.append_nil] at hp
        rw [List.mem_singleton.mp hp]; exact sz1
    have run := hB Aw (.func body (envOfC qual scope s.heap.objs.size f cdv)) [] (fun f => .pure (.done (.ret (match f with | .ret v => v | _ => .none)))) (fun e => (leaving (envOfC qual scope s.heap.objs.size f cdv) e).wrap (fun _ => .raise e) .raise id id) id id [] [] s' H' Z' s' (L2.start N vs) H' Z' _
      ⟨over_func, rfl, rfl, rfl⟩ wk.size a4 (by rw [hF]; exact rfl) fun fl sb2 Hb2 Zb2 s2 σ2 H2 Z2 ρ2 hn2 a2 wk2 ft => by
        rw [hF] at ft
        cases fl with
        | next => exact sgm_end (.ok (.ret .none)) ⟨.inr rfl, H2, Z2, a2.told⟩
        | brk => exact ft.elim
        | cont => exact ft.elim
        | ret v => exact ft.elim
    rw [hF] at run
    rw [show ys = (ys, O.nx rho []).1 ++ [] by rw [List.append_nil]]
    exact run
  exact main { cls := .type "generator", data := .fields #[.int s1.gens.size 0, .str nm0 s1.toks, .str qual (s1.toks + 1)] } (.str nm0 s1.toks) (.str qual (s1.toks + 1)) (s1.toks + 1 + 1) rfl rfl rfl fun h => Heap.get?_push_size _ rfl
end Sg
end

section
set_option Elab.async false
set_option linter.all false
set_option maxRecDepth 100000
/-! SyS: the promise of a def; calls. -/
namespace Sy
open PySem L2 PyProof.Rows
def entryWs : Nat → List Ar → List W
  | _, [] => []
  | n, .t v :: as => .t v :: entryWs n as
  | n, .c _ :: as => .loc n :: entryWs (n + 1) as
def cellsOf : List Ar → Sto
  | [] => []
  | .t _ :: as => cellsOf as
  | .c x :: as => ⟨x, false, false⟩ :: cellsOf as
theorem entry_eq : ∀ (n : Nat) (as : List Ar), entry n as = ((entryWs n as).map some, cellsOf as)
  | _, [] => rfl
  | n, .t v :: as => by
    show ((some (W.t v)) :: (entry n as).1, (entry n as).2) = _
    rw [entry_eq n as]
    rfl
  | n, .c x :: as => by
    show ((some (W.loc n)) :: (entry (n + 1) as).1, (⟨x, false, false⟩ : En) :: (entry (n + 1) as).2) = _
    rw [entry_eq (n + 1) as]
    rfl
theorem entryWs_length : ∀ (n : Nat) (as : List Ar), (entryWs n as).length = as.length
  | _, [] => rfl
  | n, .t v :: as => by show (entryWs n as).length + 1 = as.length + 1; rw [entryWs_length n as]
  | n, .c x :: as => by show (entryWs (n + 1) as).length + 1 = as.length + 1; rw [entryWs_length (n + 1) as]
/-- the promise of a def -/
def spC (Γ : Tx) (cf : List Ar → CR) (np : Nat) : Sp := fun vs H Q _ => ∃ Z ns as, Ste Γ Z ns (cellsOf as) H ∧ RepWs Γ Z ns (strip H) (entryWs 0 as) vs ∧ as.length = np ∧ match cf as with
  | .ok r outs => ∀ v H' Z' ad' μ' w, Ste Γ Z' ad' μ' H' → Ext Z ns H Z' ad' H' → RepW Γ Z' ad' (strip H') w v → handB ns.length w μ' = .ok r outs → Q v H'
  | .exc _ _ => False
  | .bad => False
theorem spC_len {Γ : Tx} {cf : List Ar → CR} {np : Nat} {vs : List V} {H : Hp} {Q : VK} {E : XK} (h : spC Γ cf np vs H Q E) : vs.length = np := by
  obtain ⟨Z, ns, as, _, r, hl, _⟩ := h
  rw [← r.length, entryWs_length, hl]
section
variable {Γ : Tx} {X : Cx} {α β γ δ : Type} {rp : Rp α β} {rp' : Rp γ δ} {Z Z' Z0 Z1 : Addr → Prop} {ad ad' ad0 ad1 adc : List Addr} {H H' H0 H1 : Hp} {ρ : Env} {μ μ' μ1 : Sto} {σ : L2.St} {D : Ends} {ns : List Nat}
variable {e a b c : Expr} {es : List Expr} {F G : Sto → R W} {FL : Sto → R (List W)} {pos p : Pos}
theorem slo_start {S : Hp} : ∀ {ws : List W} {vs : List V}, RepWs Γ Z ad S ws vs → ∀ (i : Nat) (w : W), (ws.map some)[i]? = some (some w) → ∃ v, (vs.map some)[i]? = some (some v) ∧ RepW Γ Z ad S w v
  | [], _, _, i, w, h => by simp at h
  | w0 :: ws, _, ⟨v, r, e, h1, h2⟩, 0, w, h => by
    subst e
    have h : w0 = w := by simpa using h
    subst h
    exact ⟨v, rfl, h1⟩
  | w0 :: ws, _, ⟨v, r, e, h1, h2⟩, i + 1, w, h => by
    subst e
    have h : (ws.map some)[i]? = some (some w) := by simpa using h
    obtain ⟨v', h3, h4⟩ := slo_start h2 i w h
    exact ⟨v', by simpa using h3, h4⟩
/-- a def's body does what the evaluator does -/
theorem body_ok {C : Ctx} {d : FD} {sts : List Stmt} {N : List Str} {vs : List V} {Q : VK} {E : XK} (hb : SSs Γ X sts (evSs C d.body)) (hN : N.length = d.nl) (hnp : d.np ≤ d.nl) (h : spC Γ (runD C d) d.np vs H Q E) :
    ∃ t, PSs X sts t ∧ t { nx := fun _ H' => Q .non H', rt := Q } (start N vs) H := by
  have hlv := spC_len h
  obtain ⟨Z, ns, as, s, r, hl, h⟩ := h
  refine ⟨_, hb ((entryWs 0 as).map some ++ List.replicate (d.nl - d.np) none) (cellsOf as), Z, ns, s, ?_, ?_⟩
  · refine ⟨?_, fun i w e => ?_⟩
    · unfold L2.start
      rw [List.length_append, List.length_append, List.length_map, List.length_map, List.length_replicate, List.length_replicate, entryWs_length, hl, hlv, hN]
    · have hml : ((entryWs 0 as).map some).length = (vs.map (some : V → Option V)).length := by rw [List.length_map, List.length_map, entryWs_length, hl, hlv]
      by_cases hi : i < ((entryWs 0 as).map some).length
      · rw [List.getElem?_append_left hi] at e
        obtain ⟨v, h1, h2⟩ := slo_start r i w e
        refine ⟨v, ?_, h2⟩
        unfold L2.start
        rw [List.getElem?_append_left (by rw [← hml]; exact hi)]
        exact h1
      · rw [List.getElem?_append_right (by omega)] at e
        have := List.mem_of_getElem? e
        rw [List.mem_replicate] at this
        cases this.2
  · unfold runD at h
    rw [if_pos hl, entry_eq] at h
    simp only at h
    have hk : (cellsOf as).length = ns.length := s.len.symm
    rw [hk] at h
    cases q : evSs C d.body ((entryWs 0 as).map some ++ List.replicate (d.nl - d.np) none) (cellsOf as) with
    | nx ρ' μ' =>
      rw [q] at h
      exact fun σ' H' Z' ad' s' x l => h .non H' Z' ad' μ' (.t .non) s' x (by simp [RepW, Rep]) rfl
    | rt w μ' =>
      rw [q] at h
      intro v H' Z' ad' s' x r'
      have h : (match handB ns.length w μ' with
        | .ok r outs => ∀ v H' Z' ad' μ' w, Ste Γ Z' ad' μ' H' → Ext Z ns H Z' ad' H' → RepW Γ Z' ad' (strip H') w v → handB ns.length w μ' = .ok r outs → Q v H'
        | .exc _ _ => False
        | .bad => False) := h
      cases q2 : handB ns.length w μ' with
      | ok r outs => rw [q2] at h; exact h v H' Z' ad' μ' w s' x r' q2
      | exc _ _ => rw [q2] at h; exact False.elim h
      | bad => rw [q2] at h; exact False.elim h
    | bk _ _ => rw [q] at h; exact False.elim h
    | ct _ _ => rw [q] at h; exact False.elim h
    | ex _ _ => rw [q] at h; exact False.elim h
    | bad => rw [q] at h; exact False.elim h
/-! ### what is handed over -/
theorem ars_ok (s : Ste Γ Z ad μ H) : ∀ {ws : List W} {vs : List V} {as : List Ar} {ns : List Nat} (pre : List Addr), RepWs Γ Z ad (strip H) ws vs → arsOf ws μ = some (as, ns) →
    ∃ adc, Paired (fun n a => ad[n]? = some a) ns adc ∧ RepWs Γ Z (pre ++ adc) (strip H) (entryWs pre.length as) vs ∧ Paired (fun n e' => ∃ e, μ[n]? = some e ∧ e.fz = false ∧ e' = (⟨e.c, false, false⟩ : En)) ns (cellsOf as) ∧ as.length = ws.length
  | [], _, as, ns, pre, r, h => by
    have h : some (([] : List Ar), ([] : List Nat)) = some (as, ns) := h
    cases h
    exact ⟨[], .nil, r, .nil, rfl⟩
  | .t v :: ws, _, as, ns, pre, ⟨x, vs, ev, r1, r2⟩, h => by
    subst ev
    unfold arsOf at h
    cases q : arsOf ws μ with
    | none => rw [q] at h; cases h
    | some p =>
      obtain ⟨as', ns'⟩ := p
      rw [q] at h
      cases h
      obtain ⟨adc, h1, h2, h3, h4⟩ := ars_ok s pre r2 q
      exact ⟨adc, h1, ⟨x, vs, rfl, r1, h2⟩, h3, by show _ + 1 = _ + 1; rw [h4]⟩
  | .loc n :: ws, _, as, ns, pre, ⟨x, vs, ev, r1, r2⟩, h => by
    subst ev
    unfold arsOf at h
    cases q0 : μ[n]? with
    | none => rw [q0] at h; cases h
    | some en =>
      cases q : arsOf ws μ with
      | none => rw [q0, q] at h; cases h
      | some p =>
        obtain ⟨as', ns'⟩ := p
        rw [q0, q] at h
        obtain ⟨a, ha, rfl⟩ := r1
        obtain ⟨⟨o, k1, k2⟩, k3, k4⟩ := s.cel n a en ha q0
        cases hf : en.fz with
        | true =>
          simp only [hf] at h
          cases h
          obtain ⟨adc, h1, h2, h3, h4⟩ := ars_ok s pre r2 q
          exact ⟨adc, h1, ⟨_, vs, rfl, k2.rep k1 (k3.mp hf), h2⟩, h3, by show _ + 1 = _ + 1; rw [h4]⟩
        | false =>
          simp only [hf] at h
          cases hl : en.lk with
          | true => rw [hl] at h; cases h
          | false =>
            rw [hl] at h
            cases h
            obtain ⟨adc, h1, h2, h3, h4⟩ := ars_ok s (pre ++ [a]) r2 q
            refine ⟨a :: adc, .cons ha h1, ⟨_, vs, rfl, ⟨a, by simp, rfl⟩, ?_⟩, .cons ⟨en, q0, hf, rfl⟩ h3, by show _ + 1 = _ + 1; rw [h4]⟩
            have e1 : pre ++ a :: adc = (pre ++ [a]) ++ adc := by simp
            rw [e1]
            have e2 : (pre ++ [a]).length = pre.length + 1 := by simp
            rw [e2] at h2
            exact h2
theorem paired_get {α β : Type} {P : α → β → Prop} : ∀ {l : List α} {m : List β} {i : Nat} {x : α}, Paired P l m → l[i]? = some x → ∃ y, m[i]? = some y ∧ P x y
  | _, _, _, _, .nil, h => by simp at h
  | _, _, 0, x, .cons h t, e => by
    rw [List.getElem?_cons_zero] at e
    cases e
    exact ⟨_, rfl, h⟩
  | _, _, i + 1, x, .cons h t, e => by
    obtain ⟨y, h1, h2⟩ := paired_get t (by simpa using e)
    exact ⟨y, by simpa using h1, h2⟩
theorem paired_get' {α β : Type} {P : α → β → Prop} : ∀ {l : List α} {m : List β} {i : Nat} {y : β}, Paired P l m → m[i]? = some y → ∃ x, l[i]? = some x ∧ P x y
  | _, _, _, _, .nil, h => by simp at h
  | _, _, 0, x, .cons h t, e => by
    rw [List.getElem?_cons_zero] at e
    cases e
    exact ⟨_, rfl, h⟩
  | _, _, i + 1, x, .cons h t, e => by
    obtain ⟨y, h1, h2⟩ := paired_get' t (by simpa using e)
    exact ⟨y, by simpa using h1, h2⟩
theorem Paired_map {α β : Type} {F G : α → β → Prop} : ∀ {l₁ : List α} {l₂ : List β}, Paired F l₁ l₂ → (∀ a b, F a b → G a b) → Paired G l₁ l₂
  | _, _, .nil, _ => .nil
  | _, _, .cons r t, f => .cons (f _ _ r) (Paired_map t f)
theorem paired_nodup (hnd : ad.Nodup) : ∀ {ns : List Nat} {adc : List Addr}, Paired (fun n a => ad[n]? = some a) ns adc → ns.Nodup → adc.Nodup
  | _, _, .nil, _ => List.nodup_nil
  | _, _, .cons (a := n) (b := a) (l₁ := ns) (l₂ := adc) h t, hn => by
    have hn := List.nodup_cons.mp hn
    refine List.nodup_cons.mpr ⟨fun hm => hn.1 ?_, paired_nodup hnd t hn.2⟩
    obtain ⟨i, hi⟩ := List.getElem?_of_mem hm
    obtain ⟨m, g0, g⟩ := paired_get' t hi
    exact nodup_ixA hnd h g ▸ List.mem_of_getElem? g0
theorem paired_len {α β : Type} {P : α → β → Prop} : ∀ {l : List α} {m : List β}, Paired P l m → l.length = m.length
  | _, _, .nil => rfl
  | _, _, .cons _ t => by rw [List.length_cons, List.length_cons, paired_len t]
/-- the callee's start -/
theorem ste_in (s : Ste Γ Z ad μ H) {as : List Ar} (hn : ns.Nodup) (h1 : Paired (fun n a => ad[n]? = some a) ns adc) (h3 : Paired (fun n e' => ∃ e, μ[n]? = some e ∧ e.fz = false ∧ e' = (⟨e.c, false, false⟩ : En)) ns (cellsOf as)) : Ste Γ Z adc (cellsOf as) H := by
  have hlen : adc.length = (cellsOf as).length := (paired_len h1).symm.trans (paired_len h3)
  refine ⟨hlen, paired_nodup s.nd h1 hn, s.zd, s.nf, fun i a e e1 e2 => ?_⟩
  obtain ⟨n, g1, g2⟩ := paired_get' h1 e1
  obtain ⟨e', g3, en, g4, g5, g6⟩ := paired_get h3 g1
  rw [e2] at g3
  cases g3
  subst g6
  obtain ⟨k1, k2, k3⟩ := s.cel n a en g2 g4
  exact ⟨k1, ⟨fun z => (by cases z), fun z => by rw [k2.mpr z] at g5; cases g5⟩, fun _ => k3 g5⟩
theorem putBack_length : ∀ (ns : List Nat) (os : List (Cell × Bool)) (μ : Sto), (putBack ns os μ).length = μ.length
  | [], _, _ => rfl
  | _ :: _, [], _ => rfl
  | n :: ns, (c, z) :: os, μ => by
    show (putBack ns os (μ.set n ⟨c, false, z⟩)).length = _
    rw [putBack_length ns os, List.length_set]
theorem putBack_out : ∀ (ns : List Nat) (os : List (Cell × Bool)) (μ : Sto) (j : Nat), j ∉ ns → (putBack ns os μ)[j]? = μ[j]?
  | [], _, _, _, _ => rfl
  | _ :: _, [], _, _, _ => rfl
  | n :: ns, (c, z) :: os, μ, j, h => by
    show (putBack ns os (μ.set n ⟨c, false, z⟩))[j]? = _
    have h : j ≠ n ∧ j ∉ ns := by simpa using h
    rw [putBack_out ns os _ j h.2, List.getElem?_set_ne (Ne.symm h.1)]
theorem putBack_in : ∀ {ns : List Nat} {os : List (Cell × Bool)} {μ : Sto} {i j : Nat} {c : Cell} {z : Bool}, ns.Nodup → ns[i]? = some j → os[i]? = some (c, z) → j < μ.length → (putBack ns os μ)[j]? = some ⟨c, false, z⟩
  | [], _, _, _, _, _, _, _, h, _, _ => by simp at h
  | _ :: _, [], _, _, _, _, _, _, _, h, _ => by simp at h
  | n :: ns, (c', z') :: os, μ, 0, j, c, z, nd, h1, h2, hl => by
    have nd := List.nodup_cons.mp nd
    have h1 : n = j := by simpa using h1
    subst h1
    have h2 : c' = c ∧ z' = z := by simpa using h2
    obtain ⟨rfl, rfl⟩ := h2
    show (putBack ns os (μ.set n ⟨c', false, z'⟩))[n]? = _
    rw [putBack_out ns os _ n nd.1, List.getElem?_set_self hl]
  | n :: ns, (c', z') :: os, μ, i + 1, j, c, z, nd, h1, h2, hl => by
    have nd := List.nodup_cons.mp nd
    exact putBack_in (μ := μ.set n ⟨c', false, z'⟩) nd.2 (by simpa using h1) (by simpa using h2) (by rw [List.length_set]; exact hl)
theorem outsOf_get {k i : Nat} {e : En} (hi : i < k) (h : μ[i]? = some e) : (outsOf k μ)[i]? = some (e.c, e.fz) := by
  unfold outsOf
  rw [List.getElem?_map, List.getElem?_take_of_lt hi, h]
  rfl
/-- the caller's state behind the call -/
theorem ste_out (s : Ste Γ Z ad μ H) (hn : ns.Nodup) (h1 : Paired (fun n a => ad[n]? = some a) ns adc) (s' : Ste Γ Z' ad' μ' H') (x : Ext Z adc H Z' ad' H') :
    Ste Γ Z' ad (putBack ns (outsOf adc.length μ') μ) H' ∧ Ext Z ad H Z' ad H' := by
  have sub : ∀ a ∈ adc, a ∈ ad := fun a ha => by
    obtain ⟨i, hi⟩ := List.getElem?_of_mem ha
    obtain ⟨n, _, g⟩ := paired_get' h1 hi
    exact List.mem_of_getElem? g
  have dm : ∀ a ∈ ad, H' a ≠ none := fun a ha => by
    by_cases c : a ∈ adc
    · exact x.dm a c
    · by_cases z : Z a
      · have := s'.zd a (x.zs a z)
        exact this
      · cases q : H a with
        | none => exact absurd q (s.dom ha)
        | some o => rw [x.fr a o q c z]; exact fun z => by cases z
  refine ⟨⟨by rw [putBack_length]; exact s.len, s.nd, s'.zd, s'.nf, fun j a e e1 e2 => ?_⟩, ⟨fun a o h ha hz => x.fr a o h (fun q => ha (sub a q)) hz, x.zs, x.zk, ⟨[], by simp, fun _ h => by simp at h⟩, fun a h => ?_, dm, x.lz⟩⟩
  · have hj : j < μ.length := by
      have := (List.getElem?_eq_some_iff.mp e2).1
      rw [putBack_length] at this
      exact this
    by_cases c : j ∈ ns
    · obtain ⟨i, hi⟩ := List.getElem?_of_mem c
      obtain ⟨a', g1, g2⟩ := paired_get h1 hi
      rw [e1] at g2
      cases g2
      have hik : i < adc.length := (List.getElem?_eq_some_iff.mp g1).1
      have g3 := x.adr g1
      have hi2 : i < μ'.length := by rw [← s'.len]; exact (List.getElem?_eq_some_iff.mp g3).1
      have g4 : μ'[i]? = some μ'[i] := List.getElem?_eq_getElem hi2
      rw [putBack_in hn hi (outsOf_get hik g4) hj] at e2
      cases e2
      obtain ⟨k1, k2, k3⟩ := s'.cel i a μ'[i] g3 g4
      exact ⟨k1, k2, k3⟩
    · rw [putBack_out _ _ _ _ c] at e2
      obtain ⟨⟨o, k1, k2⟩, k3, k4⟩ := s.cel j a e e1 e2
      have ha : a ∉ adc := fun q => by
        obtain ⟨i, hi⟩ := List.getElem?_of_mem q
        obtain ⟨n, g0, g⟩ := paired_get' h1 hi
        exact c (nodup_ixA s.nd e1 g ▸ List.mem_of_getElem? g0)
      by_cases z : Z a
      · refine ⟨⟨o, (x.zk a z).trans k1, x.cob k2⟩, k3.trans ⟨x.zs a, fun _ => z⟩, fun q => ?_⟩
        rw [k3.mpr z] at q; cases q
      · have hf : e.fz = false := by
          cases q : e.fz with
          | false => rfl
          | true => exact absurd (k3.mp q) z
        have hH : H a = some o := by rw [← k4 hf]; exact k1
        have hH' := x.fr a o hH ha z
        have hs : strip H' a = some o := strip_of hH' k2.noFrz
        refine ⟨⟨o, hs, x.cob k2⟩, k3.trans ⟨fun q => absurd q z, fun q => ?_⟩, fun _ => by rw [hs, hH']⟩
        rcases x.nz a q with q | q | q
        · exact q
        · exact absurd q ha
        · rw [q] at hH; cases hH
  · rcases x.nz a h with q | q | q
    · exact .inl q
    · exact .inr (.inl (sub a q))
    · exact .inr (.inr q)
theorem Ext.dropAd {r : List Addr} (x : Ext Z ad H Z' (ad ++ r) H') : Ext Z ad H Z' ad H' :=
  ⟨x.fr, x.zs, x.zk, ⟨[], by simp, fun _ h => by simp at h⟩, x.nz, x.dm, x.lz⟩
/-- what the call hands on -/
theorem res_ok {k : Bool} {r : Ar} {outs : List (Cell × Bool)} {w : W} {v : V} {Q : VK} (s : Ste Γ Z ad μ H) (hn : ns.Nodup) (h1 : Paired (fun n a => ad[n]? = some a) ns adc) (s' : Ste Γ Z' ad' μ' H') (x : Ext Z adc H Z' ad' H')
    (rw' : RepW Γ Z' ad' (strip H') w v) (e : handB adc.length w μ' = .ok r outs) (h : Out Γ (rpW Γ) Z ad H (finA k r (putBack ns outs μ)) Q) : Q v H' := by
  cases w with
  | t t =>
    have e : CR.ok (.t t) (outsOf adc.length μ') = .ok r outs := e
    cases e
    obtain ⟨s2, x2⟩ := ste_out s hn h1 s' x
    exact h v H' Z' ad s2 x2 rw'
  | loc n =>
    obtain ⟨a, ha, rfl⟩ := rw'
    unfold handB at e
    simp only at e
    cases q : μ'[n]? with
    | none => rw [q] at e; cases e
    | some en =>
      rw [q] at e
      simp only at e
      obtain ⟨⟨o, k1, k2⟩, k3, k4⟩ := s'.cel n a en ha q
      split at e
      · cases e
        obtain ⟨s3, x3⟩ := s'.freeze ha q
        obtain ⟨s2, x2⟩ := ste_out s hn h1 s3 (x.trans x3)
        exact h _ H' _ ad s2 x2 ((k2.mono (fun _ z => .inl z) fun _ _ => rfl).rep k1 (.inr rfl))
      · rename_i hc
        cases e
        obtain ⟨s2, x2⟩ := ste_out s hn h1 s' x
        have hf : en.fz = false := by
          cases q : en.fz with
          | false => rfl
          | true => exact absurd (.inr q) hc
        have hnk : ¬ n < adc.length := fun z => hc (.inl z)
        have nz : ¬ Z' a := fun z => by rw [k3.mpr z] at hf; cases hf
        have hH' : H' a = some o := by rw [← k4 hf]; exact k1
        have hfresh : H a = none := by
          obtain ⟨r, e1, e2⟩ := x.ap
          rw [e1, List.getElem?_append_right (by omega)] at ha
          exact e2 a (List.mem_of_getElem? ha)
        have had : a ∉ ad := fun z => s.dom z hfresh
        exact fin_old s2 x2 hfresh hH' k2 had nz (Out.giv h)
/-- the call of a def, its values given -/
theorem call_imp {k : Bool} {C : Ctx} {f np : Nat} {ws : List W} {vs : List V} {Q : VK} {E : XK} (hnp : ∀ as, C.call f as ≠ .bad → as.length = np) (s : Ste Γ Z ad μ H) (r : RepWs Γ Z ad (strip H) ws vs) (h : Out Γ (rpW Γ) Z ad H (evC C k f ws μ) Q) : spC Γ (C.call f) np vs H Q E := by
  unfold evC at h
  cases q : arsOf ws μ with
  | none => rw [q] at h; exact False.elim h
  | some p =>
    obtain ⟨as, ns⟩ := p
    rw [q] at h
    simp only at h
    obtain ⟨hn, h⟩ := out_if h
    obtain ⟨adc, h1, h2, h3, h4⟩ := ars_ok s [] r q
    have hl : as.length = np := hnp as (fun q2 => by rw [q2] at h; exact False.elim h)
    refine ⟨Z, adc, as, ste_in s hn h1 h3, h2, hl, ?_⟩
    cases q2 : C.call f as with
    | exc _ _ => rw [q2] at h; exact False.elim h
    | bad => rw [q2] at h; exact False.elim h
    | ok rr outs =>
      rw [q2] at h
      exact fun v H' Z' ad' μ' w s' x rw' e => res_ok s hn h1 s' x rw' e h
/-- the last cell goes -/
theorem ste_drop {e : En} (s : Ste Γ Z (ad ++ [adr]) (μ ++ [e]) H) : Ste Γ Z ad μ H := by
  refine ⟨by have := s.len; rw [List.length_append, List.length_append] at this; exact Nat.add_right_cancel this, (List.nodup_append.mp s.nd).1, s.zd, s.nf, fun i a en h1 h2 => s.cel i a en ?_ ?_⟩
  · rw [List.getElem?_append_left (List.getElem?_eq_some_iff.mp h1).1]; exact h1
  · rw [List.getElem?_append_left (List.getElem?_eq_some_iff.mp h2).1]; exact h2
theorem putBack_append : ∀ (ns : List Nat) (os : List (Cell × Bool)) (μ ν : Sto), (∀ n ∈ ns, n < μ.length) → putBack ns os (μ ++ ν) = putBack ns os μ ++ ν
  | [], _, _, _, _ => rfl
  | _ :: _, [], _, _, _ => rfl
  | n :: ns, (c, z) :: os, μ, ν, h => by
    show putBack ns os ((μ ++ ν).set n ⟨c, false, z⟩) = putBack ns os (μ.set n ⟨c, false, z⟩) ++ ν
    rw [List.set_append_left _ _ (h n List.mem_cons_self)]
    exact putBack_append ns os _ ν fun m hm => by rw [List.length_set]; exact h m (List.mem_cons_of_mem _ hm)
theorem tree_non {c : Cell} : c.tree ≠ .non := by cases c <;> exact fun z => by cases z
/-- a new instance: its __init__ is called -/
theorem make_imp {k : Bool} {C : Ctx} {c f np : Nat} {ws : List W} {vs : List V} {Q : VK} {E : XK} (hnp : ∀ as, C.call f as ≠ .bad → as.length = np) (hc : c < Γ.n) (s : Ste Γ Z ad μ H) (r : RepWs Γ Z ad (strip H) ws vs) (h : Out Γ (rpW Γ) Z ad H (evN C k c f ws μ) Q)
    {x dx : Addr} (hx : H x = none) (hdx : H dx = none) (hne : dx ≠ x) : spC Γ (C.call f) np (.ref x :: vs) (upd (upd H dx (.own x)) x (.ins (Γ.C c) dx [])) (fun v H2 => v = .non ∧ Q (.ref x) H2) E := by
  unfold evN at h
  cases q : arsOf ws μ with
  | none => rw [q] at h; exact False.elim h
  | some p =>
    obtain ⟨as, ns⟩ := p
    rw [q] at h
    simp only at h
    obtain ⟨hn, h⟩ := out_if h
    obtain ⟨s1, x1⟩ := s.waste (o := .own x) hdx trivial
    have hx1 : upd H dx (.own x) x = none := by rw [upd_ne (Ne.symm hne)]; exact hx
    have hob : COb Γ Z (strip (upd H dx (.own x))) (.obj c []) (.ins (Γ.C c) dx []) := ⟨hc, dx, [], rfl, by simp, reps_nil.mpr rfl⟩
    obtain ⟨s2, x2⟩ := s1.cell hx1 hob
    have r2 := x2.repWs (x1.repWs r)
    have hns : ∀ n ∈ ns, n < μ.length := by
      obtain ⟨adc, h1, _, _, _⟩ := ars_ok s [] r q
      intro n hm
      obtain ⟨i, hi⟩ := List.getElem?_of_mem hm
      obtain ⟨a, _, g⟩ := paired_get h1 hi
      rw [← s.len]
      exact (List.getElem?_eq_some_iff.mp g).1
    obtain ⟨adc, h1, h2, h3, h4⟩ := ars_ok s1 [x] (x1.repWs r) q
    have h1' : Paired (fun n a => (ad ++ [x])[n]? = some a) (μ.length :: ns) (x :: adc) := by
      refine .cons ?_ (Paired_map h1 fun n a g => ?_)
      · rw [← s.len]; simp
      · rw [List.getElem?_append_left (List.getElem?_eq_some_iff.mp g).1]; exact g
    have hn' : (μ.length :: ns).Nodup := List.nodup_cons.mpr ⟨fun z => Nat.lt_irrefl _ (hns _ z), hn⟩
    have h3' : Paired (fun n e' => ∃ e, (μ ++ [(⟨.obj c [], false, false⟩ : En)])[n]? = some e ∧ e.fz = false ∧ e' = (⟨e.c, false, false⟩ : En)) (μ.length :: ns) (cellsOf (.c (.obj c []) :: as)) := by
      refine .cons ⟨⟨.obj c [], false, false⟩, by simp, rfl, rfl⟩ (Paired_map h3 fun n e' ⟨e, g1, g2, g3⟩ => ⟨e, ?_, g2, g3⟩)
      rw [List.getElem?_append_left (List.getElem?_eq_some_iff.mp g1).1]; exact g1
    have h2' : RepWs Γ Z (x :: adc) (strip (upd (upd H dx (.own x)) x (.ins (Γ.C c) dx []))) (entryWs 0 (.c (.obj c []) :: as)) (.ref x :: vs) := by
      refine ⟨_, vs, rfl, ⟨x, rfl, rfl⟩, ?_⟩
      have e1 : x :: adc = [x] ++ adc := rfl
      rw [e1]
      have h2 : RepWs Γ Z ([x] ++ adc) (strip (upd H dx (.own x))) (entryWs 1 as) vs := h2
      have zs : ∀ a, Z a → strip (upd (upd H dx (.own x)) x (.ins (Γ.C c) dx [])) a = strip (upd H dx (.own x)) a := fun a z => strip_ne trivial fun e => s1.zd a z (by rw [e]; exact hx1)
      have mv : ∀ {ws : List W} {vs : List V}, RepWs Γ Z ([x] ++ adc) (strip (upd H dx (.own x))) ws vs → RepWs Γ Z ([x] ++ adc) (strip (upd (upd H dx (.own x)) x (.ins (Γ.C c) dx []))) ws vs := by
        intro ws
        induction ws with
        | nil => exact fun h => h
        | cons w ws ih =>
          intro vs ⟨v, r, e, g1, g2⟩
          refine ⟨v, r, e, ?_, ih g2⟩
          cases w with
          | t t => exact Rep.mono (fun _ z => z) zs _ _ g1
          | loc n => exact g1
      exact mv h2
    have hl : (Ar.c (.obj c []) :: as).length = np := hnp _ (fun q2 => by rw [q2] at h; exact False.elim h)
    refine ⟨Z, x :: adc, .c (.obj c []) :: as, ste_in s2 hn' h1' h3', h2', hl, ?_⟩
    split at h
    · rename_i o z outs q2
      rw [q2]
      intro v H' Z' ad' μ' w s' x' rw' e
      obtain ⟨s3, x3⟩ := ste_out s2 hn' h1' s' x'
      have hout : w = .t .non ∧ outsOf (x :: adc).length μ' = (o, z) :: outs := by
        cases w with
        | t t =>
          have e : CR.ok (.t t) (outsOf (x :: adc).length μ') = .ok (.t .non) ((o, z) :: outs) := e
          injection e with e1 e2
          injection e1 with e1
          exact ⟨by rw [e1], e2⟩
        | loc n =>
          exfalso
          unfold handB at e
          simp only at e
          cases q : μ'[n]? with
          | none => rw [q] at e; cases e
          | some en =>
            rw [q] at e
            simp only at e
            split at e
            · injection e with e1 e2
              injection e1 with e1
              exact tree_non e1
            · injection e with e1 e2
              cases e1
      obtain ⟨rfl, hout⟩ := hout
      have hv : v = .non := by simpa [RepW, Rep] using rw'
      refine ⟨hv, ?_⟩
      rw [hout] at s3
      have e5 : putBack (μ.length :: ns) ((o, z) :: outs) (μ ++ [⟨.obj c [], false, false⟩]) = putBack ns outs μ ++ [⟨o, false, z⟩] := by
        show putBack ns outs ((μ ++ [(⟨.obj c [], false, false⟩ : En)]).set μ.length ⟨o, false, z⟩) = _
        rw [List.set_append_right _ _ (Nat.le_refl _), Nat.sub_self]
        exact putBack_append ns outs μ _ hns
      rw [e5] at s3
      have xx : Ext Z ad H Z' (ad ++ [x]) H' := (x1.trans x2).trans x3
      have hlast : (ad ++ [x])[(putBack ns outs μ).length]? = some x := by rw [putBack_length, ← s.len]; simp
      have hlast2 : (putBack ns outs μ ++ [(⟨o, false, z⟩ : En)])[(putBack ns outs μ).length]? = some ⟨o, false, z⟩ := by simp
      obtain ⟨⟨ob, k1, k2⟩, k3, k4⟩ := s3.cel _ x ⟨o, false, z⟩ hlast hlast2
      cases z with
      | true =>
        rw [Bool.not_true, Bool.and_false] at h
        have h : Out Γ (rpW Γ) Z ad H (.ok (.t o.tree) (putBack ns outs μ)) Q := h
        exact h (.ref x) H' Z' ad (ste_drop s3) xx.dropAd (k2.rep k1 (k3.mp rfl))
      | false =>
        rw [Bool.not_false, Bool.and_true] at h
        cases k with
        | true =>
          have h : Out Γ (rpW Γ) Z ad H (.ok (.loc (putBack ns outs μ).length) (putBack ns outs μ ++ [⟨o, false, false⟩])) Q := h
          exact h (.ref x) H' Z' (ad ++ [x]) s3 xx ⟨x, hlast, rfl⟩
        | false =>
          have hH' : H' x = some ob := by rw [← k4 rfl]; exact k1
          have nz : ¬ Z' x := fun q => by have := k3.mpr q; cases this
          have had : x ∉ ad := fun z => s.dom z hx
          exact fin_old (ste_drop s3) xx.dropAd hx hH' k2 had nz (Out.giv h)
    · exact False.elim h
    · exact False.elim h
end
end Sy
end

section
set_option Elab.async false
set_option linter.all false
set_option maxRecDepth 100000
/-! SyT: calls as expressions. -/
namespace Sy
open PySem L2 PyProof.Rows
section
variable {Γ : Tx} {X : Cx} {α β γ δ : Type} {rp : Rp α β} {rp' : Rp γ δ} {Z Z' Z0 Z1 : Addr → Prop} {ad ad' ad0 ad1 adc : List Addr} {H H' H0 H1 : Hp} {ρ : Env} {μ μ' μ1 : Sto} {σ : L2.St} {D : Ends} {ns : List Nat}
variable {e a b c o : Expr} {es : List Expr} {F G : Sto → R W} {FL : Sto → R (List W)} {pos p apos : Pos} {k : Nat} {fa : Addr} {fd : FuncData} {ps : List Str} {C : Ctx} {f np : Nat} {kp : Bool} {x m : Str}
def E0' : XK := fun _ _ _ => False
theorem se_call (Fn : FnOk X.prog X.w X.K X.mg X.base C8.CX0 k fa fd ps (spC Γ (C.call f) np)) (hnp : ∀ as, C.call f as ≠ .bad → as.length = np) (hr : Room k X.A) (hg : Gl X x) (hm : X.mg x = some (.ref fa)) (hk : PySem.W.keepIn X.K (.ref fa) = true) (hb : Binds X.K fd ps [])
    (hl : SA Γ X ρ (e :: es) FL) (hp : plainsX (e :: es) = true) (hdb : (x == ("__debug__" : Str)) = false) : SE Γ X ρ (.Call (.Name x p) (e :: es) [] pos) fun μ => (FL μ).bind fun ws μ => evC C kp f ws μ := fun μ => by
  have hp : plainX e = true ∧ plainsX es = true := by simpa [plainsX] using hp
  refine PE.imp (pe_call Fn hr hg hm hk hb .nil (C8.pass0 (E := E0')) (hl μ) hdb (star_of hp.1) (plain_any hp.2)) fun σ H Q ⟨Z, ad, s, l, h⟩ => step s l h fun ws μ1 vs H1 Z1 ad1 e s1 l1 x1 r1 h1 => ?_
  rw [List.append_nil]
  exact call_imp hnp s1 r1 h1
theorem se_call0 (Fn : FnOk X.prog X.w X.K X.mg X.base C8.CX0 k fa fd ps (spC Γ (C.call f) np)) (hnp : ∀ as, C.call f as ≠ .bad → as.length = np) (hr : Room k X.A) (hg : Gl X x) (hm : X.mg x = some (.ref fa)) (hk : PySem.W.keepIn X.K (.ref fa) = true) (hb : Binds X.K fd ps [])
    (hdb : (x == ("__debug__" : Str)) = false) : SE Γ X ρ (.Call (.Name x p) [] [] pos) fun μ => (R.ok [] μ).bind fun ws μ => evC C kp f ws μ := fun μ => by
  refine PE.imp (pe_call0 Fn hr hg hm hk hb .nil (C8.pass0 (E := E0')) hdb) fun σ H Q ⟨Z, ad, s, l, h⟩ => ?_
  exact call_imp (E := E0') (ws := []) (vs := []) hnp s rfl h
theorem se_make {cl : Nat} (M : Mk X.K (Γ.C cl) fa) (Fn : FnOk X.prog X.w X.K X.mg X.base C8.CX0 k fa fd ps (spC Γ (C.call f) np)) (hnp : ∀ as, C.call f as ≠ .bad → as.length = np) (hc : cl < Γ.n) (hr : Room (k + 1) X.A) (hg : Gl X x) (hm : X.mg x = some (.ref (Γ.C cl))) (hb : Binds X.K fd ps [])
    (hl : SA Γ X ρ (e :: es) FL) (hp : plainsX (e :: es) = true) (hdb : (x == ("__debug__" : Str)) = false) : SE Γ X ρ (.Call (.Name x p) (e :: es) [] pos) fun μ => (FL μ).bind fun ws μ => evN C kp cl f ws μ := fun μ => by
  have hp : plainX e = true ∧ plainsX es = true := by simpa [plainsX] using hp
  refine PE.imp (pe_make M Fn hr hg hm hb .nil (C8.pass0 (E := E0')) (hl μ) hdb (star_of hp.1) (plain_any hp.2)) fun σ H Q ⟨Z, ad, s, l, h⟩ => step s l h fun ws μ1 vs H1 Z1 ad1 e s1 l1 x1 r1 h1 => ?_
  intro q dx hq hdx hne
  rw [List.append_nil]
  exact make_imp hnp hc s1 r1 h1 hq hdx hne
theorem meth_ht {env : PySem.Env} {args : List Expr} (hb : baseX o = true) (hp : plainsX args = true) (hf : args.length < 30) (hline : (apos.endLine == pos.line) = true) :
    eval (.Call (.Attribute o m apos) args [] pos) env = (do
      let ov ← eval o env
      standAt apos.atName
      let (f, first) ← holding [ov] (getMethod ov m (do return (← importBound o env).getD true))
      callWith pos f first (backTo pos (starEach args env)) (backToKw pos (keywordEach [] env))) := by
  rw [arm_eval_Call, base_of hb]
  have hform : methodCallForm (args.length + ([] : List Keyword).length) (backTo pos (starEach args env)) (backToKw pos (keywordEach [] env)) = true := by
    unfold methodCallForm
    rw [plain_all hp]
    show (true && true && decide (args.length + 0 + 0 < 30)) = true
    simpa using hf
  unfold methodCall
  rw [hform]
  have hpos : methodCallPos true o env apos pos = pure pos := by
    unfold methodCallPos
    rw [hline]
    rfl
  rw [hpos]
  unfold calleeOf
  rfl
/-- the method of the object's class -/
structure MthOk (Γ : Tx) (X : Cx) (C : Ctx) (m : Str) (cl f : Nat) : Prop where
  ex : ∃ (k np : Nat) (fa : Addr) (fd : FuncData) (ps : List Str), Meth X.K (Γ.C cl) m fa ∧ Cls X.K (Γ.C cl) ∧ FnOk X.prog X.w X.K X.mg X.base C8.CX0 k fa fd ps (spC Γ (C.call f) np) ∧ Room k X.A ∧ Binds X.K fd ps [] ∧ (∀ as, C.call f as ≠ .bad → as.length = np)
  no : m ∉ Γ.at_ cl
theorem lookup_none {fs : List (Str × V)} {f : Str} (h : f ∉ fs.map (·.1)) : fs.lookup f = none := by
  induction fs with
  | nil => rfl
  | cons p fs ih =>
    obtain ⟨g, x⟩ := p
    have h : f ≠ g ∧ f ∉ fs.map (·.1) := by simpa using h
    rw [List.lookup_cons, beq_eq_false_iff_ne.mpr h.1]
    exact ih h.2
theorem clsOf_some {r : Option T} {c : Nat} (h : clsOf r = some c) : ∃ xs, r = some (.obj c xs) := by
  unfold clsOf at h
  split at h
  · cases h; exact ⟨_, rfl⟩
  · cases h
theorem se_mth {al : List (Nat × Nat)} (hK : X.K = Γ.K) (hal : ∀ c f, al.lookup c = some f → MthOk Γ X C m c f) (ho : SE Γ X ρ o F) (hl : SA Γ X ρ (e :: es) FL) (hp : plainsX (e :: es) = true) (hb : baseX o = true) (hf : (e :: es).length < 30) (hline : (apos.endLine == pos.line) = true) :
    SE Γ X ρ (.Call (.Attribute o m apos) (e :: es) [] pos) fun μ => (F μ).bind fun w μ => match clsOf (view w μ) with
    | some c => match al.lookup c with
      | some f => (FL μ).bind fun ws μ => evC C kp f (w :: ws) μ
      | none => .bad
    | none => .bad := fun μ => by
  cases q : F μ with
  | exc _ _ => exact ⟨fun _ _ _ _ _ _ ⟨_, _, _, _, h⟩ => by simp only [q, R.bind, Out] at h⟩
  | bad => exact ⟨fun _ _ _ _ _ _ ⟨_, _, _, _, h⟩ => by simp only [q, R.bind, Out] at h⟩
  | ok w μ1 =>
    cases q2 : clsOf (view w μ1) with
    | none => exact ⟨fun _ _ _ _ _ _ ⟨_, _, _, _, h⟩ => by simp only [q, R.bind, q2, Out] at h⟩
    | some c =>
      cases q3 : al.lookup c with
      | none => exact ⟨fun _ _ _ _ _ _ ⟨_, _, _, _, h⟩ => by simp only [q, R.bind, q2, q3, Out] at h⟩
      | some f =>
        obtain ⟨⟨k, np, fa, fd, ps, hm, hcl, Fn, hr, hbn, hnp⟩, hno⟩ := hal c f q3
        obtain ⟨xs, q4⟩ := clsOf_some q2
        have imp : ∀ (σ : L2.St) (H : Hp) (Q : VK), tS Γ ρ μ (rpW Γ) ((F μ).bind fun w μ => match clsOf (view w μ) with
            | some c => match al.lookup c with
              | some f => (FL μ).bind fun ws μ => evC C kp f (w :: ws) μ
              | none => .bad
            | none => .bad) σ H Q → tMeth (Γ.C c) m (spC Γ (C.call f) np) [] E0' (tS Γ ρ μ (rpW Γ) (F μ)) (tS Γ ρ μ1 (rpL Γ) (FL μ1)) σ H Q := fun σ H Q ⟨Z, ad, s, l, h⟩ => step s l h fun w' μ1' v H1 Z1 ad1 e s1 l1 x1 r1 h1 => by
          rw [q] at e
          cases e
          simp only [q2, q3] at h1
          have vw := view_vu s1 r1 q4
          obtain ⟨hc, a, dx, fs, rfl, k1, k2, k3⟩ := vw
          refine ⟨a, dx, fs, rfl, ins_of s1.nf k1, lookup_none ?_, step s1 l1 h1 fun ws μ2 vs H2 Z2 ad2 e2 s2 l2 x2 r2 h2 => ?_⟩
          · rw [k2]
            exact fun z => hno (List.mem_of_mem_take z)
          · rw [List.append_nil]
            exact call_imp (ws := w :: ws) hnp s2 ⟨_, _, rfl, x2.repW r1, r2⟩ h2
        have hp' : plainX e = true ∧ plainsX es = true := by simpa [plainsX] using hp
        exact PE.imp (pe_meth (pl := do return (← importBound o X.env).getD true) (ho μ) hcl hm Fn hr hbn .nil (C8.pass0 (E := E0')) (hl μ1) (star_of hp'.1) (plain_any hp'.2) (meth_ht (args := e :: es) hb hp hf hline)) imp
theorem se_mth0 {al : List (Nat × Nat)} (hK : X.K = Γ.K) (hal : ∀ c f, al.lookup c = some f → MthOk Γ X C m c f) (ho : SE Γ X ρ o F) (hb : baseX o = true) (hline : (apos.endLine == pos.line) = true) :
    SE Γ X ρ (.Call (.Attribute o m apos) [] [] pos) fun μ => (F μ).bind fun w μ => match clsOf (view w μ) with
    | some c => match al.lookup c with
      | some f => (R.ok [] μ).bind fun ws μ => evC C kp f (w :: ws) μ
      | none => .bad
    | none => .bad := fun μ => by
  cases q : F μ with
  | exc _ _ => exact ⟨fun _ _ _ _ _ _ ⟨_, _, _, _, h⟩ => by simp only [q, R.bind, Out] at h⟩
  | bad => exact ⟨fun _ _ _ _ _ _ ⟨_, _, _, _, h⟩ => by simp only [q, R.bind, Out] at h⟩
  | ok w μ1 =>
    cases q2 : clsOf (view w μ1) with
    | none => exact ⟨fun _ _ _ _ _ _ ⟨_, _, _, _, h⟩ => by simp only [q, R.bind, q2, Out] at h⟩
    | some c =>
      cases q3 : al.lookup c with
      | none => exact ⟨fun _ _ _ _ _ _ ⟨_, _, _, _, h⟩ => by simp only [q, R.bind, q2, q3, Out] at h⟩
      | some f =>
        obtain ⟨⟨k, np, fa, fd, ps, hm, hcl, Fn, hr, hbn, hnp⟩, hno⟩ := hal c f q3
        obtain ⟨xs, q4⟩ := clsOf_some q2
        have imp : ∀ (σ : L2.St) (H : Hp) (Q : VK), tS Γ ρ μ (rpW Γ) ((F μ).bind fun w μ => match clsOf (view w μ) with
            | some c => match al.lookup c with
              | some f => (R.ok [] μ).bind fun ws μ => evC C kp f (w :: ws) μ
              | none => .bad
            | none => .bad) σ H Q → tMeth (Γ.C c) m (spC Γ (C.call f) np) [] E0' (tS Γ ρ μ (rpW Γ) (F μ)) tNil σ H Q := fun σ H Q ⟨Z, ad, s, l, h⟩ => step s l h fun w' μ1' v H1 Z1 ad1 e s1 l1 x1 r1 h1 => by
          rw [q] at e
          cases e
          simp only [q2, q3] at h1
          have vw := view_vu s1 r1 q4
          obtain ⟨hc, a, dx, fs, rfl, k1, k2, k3⟩ := vw
          refine ⟨a, dx, fs, rfl, ins_of s1.nf k1, lookup_none ?_, ?_⟩
          · rw [k2]
            exact fun z => hno (List.mem_of_mem_take z)
          · exact call_imp (E := E0') (ws := [w]) (vs := [.ref a]) hnp s1 ⟨_, _, rfl, r1, rfl⟩ h1
        exact PE.imp (pe_meth0 (pl := do return (← importBound o X.env).getD true) (ho μ) hcl hm Fn hr hbn .nil (C8.pass0 (E := E0')) (meth_ht (args := []) hb rfl (by decide) hline)) imp
end
end Sy
end

section
set_option Elab.async false
set_option linter.all false
set_option maxRecDepth 100000
/-! SyTl: len(o) of an own instance. -/
namespace Sy
open PySem L2 PyProof.Rows
section
variable {Γ : Tx} {X : Cx} {Z Z1 : Addr → Prop} {ad ad1 : List Addr} {H H1 : Hp} {ρ : Env} {μ : Sto} {σ : L2.St}
variable {a : Expr} {F : Sto → R W} {pos p : Pos} {k : Nat} {fa Cl : Addr} {fd : FuncData} {ps : List Str} {C : Ctx} {f np : Nat} {sp : Sp}
theorem run_in1 {pins : List (Addr × Obj)} {s : Shared} {Q : VK} {us : List Value} {vs : List V} {E : XK} (Fn : FnOk X.prog X.w X.K X.mg X.base C8.CX0 k fa fd ps sp) (hr : Room (k + 1) X.A) (hb : Binds X.K fd ps [])
    (I : Inv X pins σ H s) (r : Vals vs us) (h : sp vs H Q E) : wpAny (model X.prog X.w) X.A.in1 (call (.ref fa) us) (EP X pins σ Q) X.xe s := by
  have hl : (us ++ []).length = ps.length := by rw [List.append_nil, ← r.length]; exact Fn.len _ _ _ _ h
  have bt := hb s us I.kIn hl
  rw [List.append_nil] at bt
  refine wpAny_call (codeAny_mono (Fn.run X.A.in1 X.stack s H ⟨us, []⟩ us vs Q E hr.in1 I.env0.in1 bt r h) fun r s' hq => ?_)
  cases r with
  | error e => exact False.elim hq
  | ok fl =>
    cases fl with
    | ret u => exact I.after hq
    | next => exact False.elim hq
    | brk => exact False.elim hq
    | cont => exact False.elim hq
def rLenO (sp : Sp) (C : Addr) (E : XK) : List V → Hp → VK → Prop := fun xs H Q => ∃ a dx fs, xs = [.ref a] ∧ H a = some (.ins C dx fs) ∧ sp [.ref a] H (fun v H2 => ∃ n : Int, v = .int n ∧ 0 ≤ n ∧ n < 2 ^ 62 ∧ Q (.int n) H2) E
theorem call_lenO {E : XK} (Fn : FnOk X.prog X.w X.K X.mg X.base C8.CX0 k fa fd ps sp) (hr : Room (k + 1) X.A) (hb : Binds X.K fd ps []) (hm : Meth X.K Cl "__len__" fa) : CallR X (.builtin "len") (rLenO sp Cl E) := by
  intro pins s σ H xs us Q I rs ⟨a, dx, fs, ex, e, h⟩
  subst ex
  obtain rfl := Vals.ref1 rs
  obtain ⟨mA, O, _⟩ := ins_get I.hok e
  obtain ⟨od, J, _⟩ := O.look
  obtain ⟨m, hfr⟩ := I.fr
  refine PySem.W.len_K hfr I.mod.kin J hm.at_ hm.fn (thn (run_in1 Fn hr hb I rs h) fun v s1 ⟨x, H1, I1, r1, n, ex, h0, h1, q⟩ => ?_)
  subst ex
  obtain ⟨t, rfl⟩ := r1
  exact ⟨⟨h0, by omega⟩, .int n, H1, I1.tok _, ⟨_, rfl⟩, q⟩
theorem se_lenO {al : List (Nat × Nat)} (hK : X.K = Γ.K) (hg : Gl X "len") (hm : X.mg "len" = none) (hal : ∀ c f, al.lookup c = some f → ∃ (k np : Nat) (fa : Addr) (fd : FuncData) (ps : List Str), Meth X.K (Γ.C c) "__len__" fa ∧ FnOk X.prog X.w X.K X.mg X.base C8.CX0 k fa fd ps (spC Γ (C.call f) np) ∧ Room (k + 1) X.A ∧ Binds X.K fd ps [] ∧ (∀ as, C.call f as ≠ .bad → as.length = np))
    (ha : SE Γ X ρ a F) (hp : plainX a = true) : SE Γ X ρ (.Call (.Name "len" p) [a] [] pos) fun μ => (F μ).bind fun w μ => match clsOf (view w μ) with
    | some c => match al.lookup c with
      | some f => (evC C false f [w] μ).bind fun r μ => match r with
        | .t (.int n) => if 0 ≤ n ∧ n < 2 ^ 62 then .ok (.t (.int n)) μ else .bad
        | _ => .bad
      | none => .bad
    | none => .bad := fun μ => by
  cases q : F μ with
  | exc _ _ => exact ⟨fun _ _ _ _ _ _ ⟨_, _, _, _, h⟩ => by simp only [q, R.bind, Out] at h⟩
  | bad => exact ⟨fun _ _ _ _ _ _ ⟨_, _, _, _, h⟩ => by simp only [q, R.bind, Out] at h⟩
  | ok w μ1 =>
    cases q2 : clsOf (view w μ1) with
    | none => exact ⟨fun _ _ _ _ _ _ ⟨_, _, _, _, h⟩ => by simp only [q, R.bind, q2, Out] at h⟩
    | some c =>
      cases q3 : al.lookup c with
      | none => exact ⟨fun _ _ _ _ _ _ ⟨_, _, _, _, h⟩ => by simp only [q, R.bind, q2, q3, Out] at h⟩
      | some f =>
        obtain ⟨k, np, fa, fd, ps, hm', Fn, hr, hbn, hnp⟩ := hal c f q3
        obtain ⟨xs, q4⟩ := clsOf_some q2
        refine PE.imp (pe_callB (call_lenO (E := E0') Fn hr hbn hm') hg hm (by with_unfolding_all rfl) (pa_cons (ha μ) pa_nil (star_of hp)) (by decide) (by decide) (star_of hp) rfl) fun σ H Q ⟨Z, ad, s, l, h⟩ => ?_
        have h : Out Γ (rpW Γ) Z ad H ((F μ).bind fun w μ => match clsOf (view w μ) with
            | some c => match al.lookup c with
              | some f => (evC C false f [w] μ).bind fun r μ => match r with
                | .t (.int n) => if 0 ≤ n ∧ n < 2 ^ 62 then .ok (.t (.int n)) μ else .bad
                | _ => .bad
              | none => .bad
            | none => .bad) Q := h
        refine step s l h fun w' μ1' v H1 Z1 ad1 e s1 l1 x1 r1 h1 => ?_
        rw [q] at e
        cases e
        simp only [q2, q3] at h1
        obtain ⟨hc, a', dx, fs, rfl, k1, k2, k3⟩ := view_vu s1 r1 q4
        refine ⟨a', dx, fs, rfl, ins_of s1.nf k1, call_imp hnp s1 (ws := [w]) ⟨_, _, rfl, r1, rfl⟩ (Out.step h1 fun r μ2 v2 H2 Z2 ad2 e2 s2 x2 r2 h2 => ?_)⟩
        split at h2
        · rename_i n
          obtain ⟨⟨h3, h4⟩, h5⟩ := out_if h2
          exact ⟨n, by simpa [rpW, RepW, Rep] using r2, h3, h4, h5.now s2 (by simp [rpW, RepW, Rep])⟩
        · exact False.elim h2
end
end Sy
end

section
set_option Elab.async false
set_option linter.all false
set_option maxRecDepth 100000
/-! SyTn: C(*xs, k = v): an __init__(self, *pv, k=..). -/
namespace SyV
open PySem PySem.Spec PyProof.Rows L2 PySem.W
/-- the binding -/
theorem bind_star {fd : FuncData} {a v b : Arg} {kds : List (Option Expr)} {u0 u : Value} {us : List Value} (hpm : fd.params = ⟨[], [a], some v, [b], kds, none, []⟩) (hd : fd.defaults = .none) (hab : (b.arg == a.arg) = false) :
    bindArgs fd ⟨u0 :: us, [(b.arg, u)]⟩ = (newTuple us >>= fun t => pure [(a.arg, u0), (b.arg, u), (v.arg, t)]) := by
  have hba : (a.arg == b.arg) = false := by rw [beq_eq_false_iff_ne] at hab ⊢; exact Ne.symm hab
  have e0 : notAStandIn Value.none = pure () := rfl
  unfold bindArgs
  rw [hpm, hd]
  simp [seqItems?, hab, hba, List.lookup, e0]
section
variable {M : Model} {A : Around} {E : Value → Shared → Prop} {s : Shared}
theorem lone_kw {f : Value} {x : Sem Value} {pos : Pos} {kws : List (Option Str × Sem Value)} {Q : Args → Shared → Prop} (hall : kws.all (·.1.isSome) = true)
    (h : wpAny M A x (fun v s₁ => wpAny M A (evalAll (kws.map (·.2))) (fun ks s₂ => StarOf M A E v (fun vs s₃ => Q ⟨vs, (kws.filterMap (·.1)).zip ks⟩ s₃) s₂) E s₁) E s) :
    wpAny M A (evalArgs f true [(true, (do let v ← x; standAt pos; pure v))] kws) Q E s := by
  unfold evalArgs
  first
    | refine wpAny_bind (wpAny_bind (wpAny_mono h (fun v s₁ h₁ => wpAny_bind (wpAny_standAt (wpAny_pure ?_))) fun _ _ x => x))
    | refine wpAny_bind (wpAny_bind (wpAny_bind (wpAny_mono h (fun v s₁ h₁ => wpAny_bind (wpAny_standAt (wpAny_pure (wpAny_pure ?_)))) fun _ _ x => x)))
  refine wpAny_holding ?_
  rw [if_pos hall]
  refine wpAny_bind (wpAny_mono h₁ (fun ks s₂ h₂ => ?_) fun _ _ x => x)
  unfold StarOf at h₂
  refine wpAny_bind (wpAny_bind (wpAny_mono h₂ (fun b s₃ h₃ => ?_) fun _ _ x => x))
  obtain ⟨rfl, h₃⟩ := h₃
  dsimp only
  rw [if_neg (by decide)]
  exact wpAny_holding (wpAny_mono h₃ (fun vs s₄ h₄ => wpAny_pure h₄) fun _ _ x => x)
theorem call_kw {f : Value} {first : List Value} {pos : Pos} {Q : Value → Shared → Prop} {P : Heap → Prop} {args : List (Bool × Sem Value)} {kws : List (Option Str × Sem Value)} (hst : args.any (·.1) = true)
    (hk : ∀ h, P h → ∃ k, (k = Keeper.frame ∨ k = Keeper.machine ∨ k = Keeper.boundFrame) ∧ Looks M h (keeperOf f) k)
    (h : wpAny M A (evalArgs f true args kws) (fun a s₁ => P s₁.heap ∧ wpAny M A (call f (first ++ a.pos) a.kw) Q E s₁) E s) : wpAny M A (callWith pos f first args kws) Q E s := by
  unfold callWith
  refine wpAny_bind (wpAny_holding (wpAny_mono h (fun a s₁ h₁ => wpAny_bind (wpAny_standAt ?_)) fun _ _ x => x))
  obtain ⟨k, hk', L⟩ := hk _ h₁.1
  simp only [hst, Bool.true_or]
  refine wpAny_bind (L.here ?_)
  have tail : ∀ {t : Sem Value}, wpAny M A t Q E s₁ → wpAny M A (t >>= fun r => holding [r] point >>= fun _ => pure r) Q E s₁ :=
    fun ht => wpAny_bind (wpAny_mono ht (fun r s₂ hr => wpAny_bind (wpAny_holding (wpAny_point (wpAny_pure hr)))) fun _ _ x => x)
  have marked (mk : Value) : wpAny M A (callMarked mk f (first ++ a.pos) a.kw) Q E s₁ := by unfold callMarked; exact Calls.wpAny_keep h₁.2
  rcases hk' with rfl | rfl | rfl <;> dsimp only <;> first | exact tail (marked _) | exact tail (wpAny_operating h₁.2)
end
/-- the promise of such an __init__ -/
def FnV (P : Program) (w : World) (K : PySem.W.Frag) (mg : Str → Option Value) (base : Heap) (k : Nat) (f : Addr) (kn : Str) (sp : Sp) : Prop :=
  ∀ (A : Around) (outer : List Env) (s : Shared) (H : Hp) (u0 u : Value) (us : List Value) (x z : V) (xs : List V) (Q : VK) (E : XK), Room k A → Env0 P w K mg base A outer s H → RelV x u0 → RelV z u → Vals xs us → xs.length ≤ sizeLine →
    (∀ p, H p = none → sp [x, z, .ref p] (upd H p (.tup xs)) Q E) → codeAny (model P w) A (.call (.ref f) ⟨u0 :: us, [(kn, u)]⟩) (CR C8.CX0 outer P w H s Q E) s
theorem fnV {P : Program} {w : World} {K : PySem.W.Frag} {mg : Str → Option Value} {base : Heap} {k : Nat} {f : Addr} {x qual : Str} {a v b : Arg} {kds : List (Option Expr)} {body : List Stmt} {scope : Scope} {kws : List (Str × V)} {fd : FuncData} {N : List Str} {sp : Sp}
    (F : FunD K x qual ⟨[], [a], some v, [b], kds, none, []⟩ body scope [] kws f fd) (hab : (b.arg == a.arg) = false) (S : FnScope N [a.arg, b.arg, v.arg] scope)
    (hbody : ∀ (cdv : Value) (A : Around) (outer : List Env) (s : Shared) (H : Hp) (vs : List V) (Q : VK) (E : XK), Room k (A.deeper (envOfC qual scope s.heap.objs.size f cdv)) → sp vs H Q E →
      ∃ t, PSs (cxOf C8.CX0 P w K mg base N qual scope f cdv A outer s H E) body t ∧ t { nx := fun _ H' => Q .non H', rt := Q } (start N vs) H) : FnV P w K mg base (k + 1) f b.arg sp := by
  intro A outer s H u0 u us x z xs Q E hr e0 r0 rz rs hz hsp
  obtain ⟨oc, od, dV, kV, doc, pm, an, cdv, ct, osl, rfl, lk, hcd, hD, _⟩ := F.ex
  have hdv : dV = .none := by
    rcases hD with ⟨_, h⟩ | ⟨h, _⟩
    · exact h
    · exact absurd rfl h
  subst hdv
  have hn : H s.heap.objs.size = none := e0.hok.fresh (Nat.le_refl _)
  refine StX.run_bnd lk hcd S hr e0 (G := fun ys H2 => ∃ p, H p = none ∧ ys = [x, z, .ref p] ∧ H2 = upd H p (.tup xs)) (fun A' Ex Q' h => ?_) fun s2 H2 ys ⟨p, hp, ey, eH⟩ hr' => ?_
  · rw [bind_star (us := us) (u0 := u0) (u := u) rfl rfl hab]
    refine wpAny_bind (wpAny_newTuple (wpAny_pure ?_) (by rw [← rs.length]; exact hz))
    have new : ObjOk P w (upd H s.heap.objs.size (.tup xs)) (s.heap.push ({ cls := .type "tuple", data := .seq us.toArray } : Obj)) s.heap.objs.size (.tup xs) := ⟨hz, us, rs, ⟨_, Heap.get?_push_size _ rfl, rfl, _, rfl⟩⟩
    have un := StX.un_laid (fs := frs outer) (s := s) (o := ({ cls := .type "tuple", data := .seq us.toArray } : Obj)) (u := .tup xs) hn
    exact h _ _ [x, z, .ref s.heap.objs.size] [u0, u, .ref s.heap.objs.size] (StX.env0_laid e0 new) un rfl (fun e s' q => q) (.cons r0 (.cons rz (.cons rfl .nil))) rfl ⟨_, hn, rfl, rfl⟩
  · subst ey eH
    exact hbody cdv A outer s2 _ _ Q E hr' (hsp p hp)
section
variable {X : Cx} {k : Nat} {f C : Addr} {sp : Sp} {kn x : Str} {p pos kpos sp_ : Pos} {e ke : Expr} {es : List Expr} {t : TA} {te tk : TE}
theorem run_makeV {pins : List (Addr × Obj)} {σ : L2.St} {H : Hp} {s : Shared} {Q : VK} {us : List Value} {u : Value} {xs : List V} {z : V} (M : Mk X.K C f) (F : FnV X.prog X.w X.K X.mg X.base k f kn sp) (hr : Room (k + 1) X.A) (I : Inv X pins σ H s) (r : Vals xs us) (rz : RelV z u) (hz : xs.length ≤ sizeLine)
    (h : ∀ x dx, H x = none → H dx = none → dx ≠ x → ∀ p, upd (upd H dx (.own x)) x (.ins C dx []) p = none → sp [.ref x, z, .ref p] (upd (upd (upd H dx (.own x)) x (.ins C dx [])) p (.tup xs)) (fun v H2 => v = .non ∧ Q (.ref x) H2) C8.E0) :
    wpAny (model X.prog X.w) X.A (call (.ref C) us [(kn, u)]) (EP X pins σ Q) X.xe s := by
  have hq := h (s.heap.objs.size + 1) s.heap.objs.size (I.hok.fresh (Nat.le_succ _)) (I.hok.fresh (Nat.le_refl _)) (Nat.ne_of_lt (Nat.lt_succ_self _))
  have I2 := Inv.made (C := C) I
  refine wpAny_call (make_map (f := f) I.kIn M.makes M.init (beq_iff_eq.mp M.fn) (codeAny_mono (F _ X.stack _ _ (Value.ref (s.heap.objs.size + 1)) u us (V.ref (s.heap.objs.size + 1)) z xs _ C8.E0 (hr.make C us [(kn, u)]) (I2.env0.make C us [(kn, u)]) rfl rz r hz hq) fun r s' hq' => ?_))
  cases r with
  | error e => exact False.elim hq'
  | ok fl =>
    cases fl with
    | ret u =>
      obtain ⟨v, H', I3, rv, ev, q3⟩ := I2.after hq'
      subst ev
      exact ⟨rv, ⟨V.ref (s.heap.objs.size + 1), H', I3, rfl, q3⟩⟩
    | next => exact False.elim hq'
    | brk => exact False.elim hq'
    | cont => exact False.elim hq'
/-- what a call C(*.., k = v) is: the values, then the keyword's value -/
def tMakeV (C : Addr) (sp : Sp) (t : TA) (tk : TE) : TE := fun σ H Q => t σ H fun xs H1 => tk σ H1 fun z H2 => xs.length ≤ sizeLine ∧ ∀ x dx, H2 x = none → H2 dx = none → dx ≠ x → ∀ p, upd (upd H2 dx (.own x)) x (.ins C dx []) p = none →
  sp [.ref x, z, .ref p] (upd (upd (upd H2 dx (.own x)) x (.ins C dx [])) p (.tup xs)) (fun v H3 => v = .non ∧ Q (.ref x) H3) C8.E0
theorem all1 {pins : List (Addr × Obj)} {s : Shared} {σ : L2.St} {H : Hp} {Q : VK} {R : List Value → Shared → Prop} (hk : PE X ke tk) (I : Inv X pins σ H s) (h : tk σ H Q) (q : ∀ u z s1 H1, Inv X pins σ H1 s1 → RelV z u → Q z H1 → R [u] s1) :
    wpAny (model X.prog X.w) X.A (evalAll ((backToKw pos (keywordEach [⟨some kn, ke, kpos⟩] X.env)).map (·.2))) R X.xe s := by
  have pk := (pk_cons (nm := some kn) (kpos := kpos) hk pk_nil).run pos pins s σ H (fun vs H => vs.length = 1 ∧ Q (vs.headD .non) H) I (show tk σ H (fun x H1 => [x].length = 1 ∧ Q x H1) from by
    have e : (fun (x : V) (H1 : Hp) => [x].length = 1 ∧ Q x H1) = Q := by
      funext x H1
      exact propext ⟨fun h => h.2, fun h => ⟨rfl, h⟩⟩
    rw [e]
    exact h)
  refine thn pk fun us s1 ⟨vs, H1, I1, r1, hl, q1⟩ => ?_
  cases vs with
  | nil => cases hl
  | cons z vs =>
    cases vs with
    | cons _ _ => cases hl
    | nil =>
      cases r1 with
      | cons r rr =>
        cases rr
        exact q _ z s1 H1 I1 r q1
theorem pe_makeV0 (M : Mk X.K C f) (F : FnV X.prog X.w X.K X.mg X.base k f kn sp) (hr : Room (k + 1) X.A) (hg : Gl X x) (hm : X.mg x = some (.ref C)) (hk : PE X ke tk) (hdb : (x == ("__debug__" : Str)) = false) :
    PE X (.Call (.Name x p) [] [⟨some kn, ke, kpos⟩] pos) (tMakeV C sp tNil tk) := by
  refine ⟨fun pins s σ H Q I h => ?_⟩
  refine wpAny_Call_Name_kw (ld_glob I hg hm ?_ hdb)
  refine callWith_KW0 (h₀ := X.base) I.ok.mod.kin M.kp rfl ?_ rfl
  refine all1 hk I h fun u z s1 H1 I1 rz ⟨h1, h2⟩ => ⟨I1.kIn, ?_⟩
  exact run_makeV (us := []) (xs := []) M F hr I1 .nil rz h1 h2
theorem pe_makeV1 (M : Mk X.K C f) (F : FnV X.prog X.w X.K X.mg X.base k f kn sp) (hr : Room (k + 1) X.A) (hg : Gl X x) (hm : X.mg x = some (.ref C)) (ha : PA X (e :: es) t) (hk : PE X ke tk) (hdb : (x == ("__debug__" : Str)) = false)
    (he : starEach (e :: es) X.env = (false, eval e X.env) :: starEach es X.env) (hpl : (backTo pos (starEach (e :: es) X.env)).any (·.1) = false) :
    PE X (.Call (.Name x p) (e :: es) [⟨some kn, ke, kpos⟩] pos) (tMakeV C sp t tk) := by
  refine ⟨fun pins s σ H Q I h => ?_⟩
  refine wpAny_Call_Name_kw (ld_glob I hg hm ?_ hdb)
  refine callWith_KW (h₀ := X.base) I.ok.mod.kin M.kp rfl (thn (ha.run pos pins s σ H _ I h) fun us s1 ⟨xs, H1, I1, r, q⟩ => ?_) (by rw [hpl]; rfl) he
  exact all1 hk I1 q fun u z s2 H2 I2 rz ⟨h1, h2⟩ => ⟨I2.kIn, run_makeV M F hr I2 r rz h1 h2⟩
/-- the list or tuple behind the star, read when the keyword's value is there -/
def tMakeS (K : PySem.W.Frag) (C : Addr) (sp : Sp) (te tk : TE) : TE := fun σ H Q => te σ H fun y H1 => tk σ H1 fun z H2 => ∃ a xs, y = .ref a ∧ (SqT K H2 a xs ∨ SqL K H2 a xs) ∧ xs.length ≤ sizeLine ∧ ∀ x dx, H2 x = none → H2 dx = none → dx ≠ x → ∀ p, upd (upd H2 dx (.own x)) x (.ins C dx []) p = none →
  sp [.ref x, z, .ref p] (upd (upd (upd H2 dx (.own x)) x (.ins C dx [])) p (.tup xs)) (fun v H3 => v = .non ∧ Q (.ref x) H3) C8.E0
theorem pe_makeS (M : Mk X.K C f) (F : FnV X.prog X.w X.K X.mg X.base k f kn sp) (hr : Room (k + 1) X.A) (hg : Gl X x) (hm : X.mg x = some (.ref C)) (he : PE X e te) (hk : PE X ke tk) (hdb : (x == ("__debug__" : Str)) = false) :
    PE X (.Call (.Name x p) [.Starred e sp_] [⟨some kn, ke, kpos⟩] pos) (tMakeS X.K C sp te tk) := by
  refine ⟨fun pins s σ H Q I h => ?_⟩
  refine wpAny_Call_Name_kw (ld_glob I hg hm ?_ hdb)
  have hs : backTo pos (starEach [.Starred e sp_] X.env) = [(true, do let v ← eval e X.env; standAt pos; pure v)] := rfl
  rw [hs]
  refine call_kw (P := X.K.In) rfl (keeps_K M.kp) (lone_kw rfl (thn (he.run pins s σ H _ I h) fun v s1 ⟨y, H1, I1, ry, q⟩ => ?_))
  refine all1 hk I1 q fun u z s2 H2 I2 rz ⟨a, xs, ey, hx, h1, h2⟩ => ?_
  subst ey
  obtain rfl : v = Value.ref a := ry
  exact StX.star_any I2 hx fun us s3 I3 rv => ⟨I3.kIn, run_makeV M F hr I3 rv rz h1 h2⟩
end
end SyV
namespace Sy
open PySem L2 PyProof.Rows
section
variable {Γ : Tx} {X : Cx} {Z Z1 : Addr → Prop} {ad ad1 : List Addr} {H H1 : Hp} {ρ : Env} {μ : Sto} {σ : L2.St}
theorem upd_comm {H : Hp} {a b : Addr} {o u : HO} (h : a ≠ b) : upd (upd H a o) b u = upd (upd H b u) a o := by
  funext c
  by_cases h1 : c = a
  · subst h1
    rw [upd_ne h, upd_same, upd_same]
  · by_cases h2 : c = b
    · subst h2
      rw [upd_same, upd_ne h1, upd_same]
    · rw [upd_ne h2, upd_ne h1, upd_ne h1, upd_ne h2]
/-- the new instance, its keyword's value, its tuple -/
theorem makeV_imp {k : Bool} {C : Ctx} {c f np : Nat} {zw : W} {z : V} {ts : List T} {xs : List V} {Q : VK} {E : XK} (hnp : ∀ as, C.call f as ≠ .bad → as.length = np) (hc : c < Γ.n) (s : Ste Γ Z ad μ H) (rz : RepW Γ Z ad (strip H) zw z) (rt : Reps Γ Z (strip H) ts xs)
    (h : Out Γ (rpW Γ) Z ad H (evN C k c f [zw, .t (.tup ts)] μ) Q) {x dx p : Addr} (hx : H x = none) (hdx : H dx = none) (hne : dx ≠ x) (hp : upd (upd H dx (.own x)) x (.ins (Γ.C c) dx []) p = none) :
    spC Γ (C.call f) np [.ref x, z, .ref p] (upd (upd (upd H dx (.own x)) x (.ins (Γ.C c) dx [])) p (.tup xs)) (fun v H2 => v = .non ∧ Q (.ref x) H2) E := by
  have hpx : p ≠ x := fun e => by rw [e, upd_same] at hp; cases hp
  have hpd : p ≠ dx := fun e => by rw [e, upd_ne hne, upd_same] at hp; cases hp
  have hp0 : H p = none := by rw [upd_ne hpx, upd_ne hpd] at hp; exact hp
  obtain ⟨s1, x1⟩ := s.tree (o := .tup xs) hp0 trivial
  have rt1 : RepW Γ (Zp Z p) ad (strip (upd H p (.tup xs))) (.t (.tup ts)) (.ref p) := by
    show Rep Γ _ _ (.tup ts) _
    simp only [Rep]
    exact ⟨p, xs, rfl, .inl ⟨.inr rfl, strip_at trivial⟩, x1.reps rt⟩
  have r := make_imp (E := E) (k := k) hnp hc s1 (ws := [zw, .t (.tup ts)]) (vs := [z, .ref p]) ⟨_, _, rfl, x1.repW rz, _, _, rfl, rt1, rfl⟩ (h.ext x1) (x := x) (dx := dx) (by rw [upd_ne (Ne.symm hpx)]; exact hx) (by rw [upd_ne (Ne.symm hpd)]; exact hdx) hne
  rw [upd_comm hpd, upd_comm hpx] at r
  exact r
variable {a ke : Expr} {es : List Expr} {F G : Sto → R W} {FL : Sto → R (List W)} {pos p kpos sp_ : Pos} {k : Nat} {fa : Addr} {C : Ctx} {f np cl : Nat} {kp : Bool} {x kn : Str}
theorem se_newV0 (M : Mk X.K (Γ.C cl) fa) (Fn : SyV.FnV X.prog X.w X.K X.mg X.base k fa kn (spC Γ (C.call f) np)) (hnp : ∀ as, C.call f as ≠ .bad → as.length = np) (hc : cl < Γ.n) (hr : Room (k + 1) X.A) (hg : Gl X x) (hm : X.mg x = some (.ref (Γ.C cl)))
    (hk : SE Γ X ρ ke G) (hdb : (x == ("__debug__" : Str)) = false) : SE Γ X ρ (.Call (.Name x p) [] [⟨some kn, ke, kpos⟩] pos) fun μ => (R.ok [] μ).bind fun ws μ => (toTs ws μ).bind fun vs μ => (G μ).bind fun z μ => if vs.length ≤ sizeLine then evN C kp cl f [z, .t (.tup vs)] μ else .bad := fun μ => by
  refine PE.imp (SyV.pe_makeV0 M Fn hr hg hm (hk μ) hdb) fun σ H Q ⟨Z, ad, s, l, h⟩ => ?_
  have h : Out Γ (rpW Γ) Z ad H ((G μ).bind fun z μ => if ([] : List T).length ≤ sizeLine then evN C kp cl f [z, .t (.tup [])] μ else .bad) Q := h
  refine step s l h fun z μ1 v H1 Z1 ad1 e s1 l1 x1 r1 h1 => ?_
  obtain ⟨h2, h3⟩ := out_if h1
  exact ⟨h2, fun q dx hq hdx hne p hp => makeV_imp hnp hc s1 r1 (reps_nil.mpr rfl) h3 hq hdx hne hp⟩
theorem se_newV1 (M : Mk X.K (Γ.C cl) fa) (Fn : SyV.FnV X.prog X.w X.K X.mg X.base k fa kn (spC Γ (C.call f) np)) (hnp : ∀ as, C.call f as ≠ .bad → as.length = np) (hc : cl < Γ.n) (hr : Room (k + 1) X.A) (hg : Gl X x) (hm : X.mg x = some (.ref (Γ.C cl)))
    (hl : SA Γ X ρ (a :: es) FL) (hp : plainsX (a :: es) = true) (hk : SE Γ X ρ ke G) (hdb : (x == ("__debug__" : Str)) = false) : SE Γ X ρ (.Call (.Name x p) (a :: es) [⟨some kn, ke, kpos⟩] pos) fun μ => (FL μ).bind fun ws μ => (toTs ws μ).bind fun vs μ => (G μ).bind fun z μ => if vs.length ≤ sizeLine then evN C kp cl f [z, .t (.tup vs)] μ else .bad := fun μ => by
  have hp' : plainX a = true ∧ plainsX es = true := by simpa [plainsX] using hp
  refine PE.imp (SyV.pe_makeV1 M Fn hr hg hm (hl μ) (hk ((toTs ((match FL μ with | .ok ws _ => ws | _ => [])) ((FL μ).st μ)).st ((FL μ).st μ))) hdb (star_of hp'.1) (plain_any hp)) fun σ H Q ⟨Z, ad, s, l, h⟩ => step s l h fun ws μ1 vs H1 Z1 ad1 e s1 l1 x1 r1 h1 => ?_
  rw [e, R.st_ok]
  cases e2 : toTs ws μ1 with
  | exc _ _ => rw [e2] at h1; exact False.elim h1
  | bad => rw [e2] at h1; exact False.elim h1
  | ok ts μ2 =>
  obtain ⟨Z2, s2, x2, r2⟩ := toTs_ok s1 r1 e2
  rw [e2] at h1
  have h2 := Out.ext (r := (G μ2).bind fun z μ => if ts.length ≤ sizeLine then evN C kp cl f [z, .t (.tup ts)] μ else .bad) h1 x2
  rw [R.st_ok]
  refine step s2 (l1.ext x2) h2 fun z μ3 v H3 Z3 ad3 e3 s3 l3 x3 r3 h3 => ?_
  obtain ⟨h4, h5⟩ := out_if h3
  have r4 := x3.reps r2
  exact ⟨by rw [← r4.length]; exact h4, fun q dx hq hdx hne p hp => makeV_imp hnp hc s3 r3 r4 h5 hq hdx hne hp⟩
theorem se_newVS (hK : X.K = Γ.K) (M : Mk X.K (Γ.C cl) fa) (Fn : SyV.FnV X.prog X.w X.K X.mg X.base k fa kn (spC Γ (C.call f) np)) (hnp : ∀ as, C.call f as ≠ .bad → as.length = np) (hc : cl < Γ.n) (hr : Room (k + 1) X.A) (hg : Gl X x) (hm : X.mg x = some (.ref (Γ.C cl)))
    (ha : SE Γ X ρ a F) (hk : SE Γ X ρ ke G) (hdb : (x == ("__debug__" : Str)) = false) : SE Γ X ρ (.Call (.Name x p) [.Starred a sp_] [⟨some kn, ke, kpos⟩] pos) fun μ => ((F μ).bind fun w μ => (R.ok [] μ).bind fun ws μ => .ok (w :: ws) μ).bind fun ws μ => (toTs ws μ).bind fun vs μ => (G μ).bind fun z μ => match vs with
      | [v] => match seqT v with
        | some xs => if xs.length ≤ sizeLine then evN C kp cl f [z, .t (.tup xs)] μ else .bad
        | none => .bad
      | _ => .bad := fun μ => by
  refine PE.imp (SyV.pe_makeS M Fn hr hg hm (ha μ) (hk ((toT (match F μ with | .ok w _ => w | _ => .t .non) ((F μ).st μ)).st ((F μ).st μ))) hdb) fun σ H Q ⟨Z, ad, s, l, h⟩ => ?_
  have h : Out Γ (rpW Γ) Z ad H ((F μ).bind fun w μ => (toTs [w] μ).bind fun vs μ => (G μ).bind fun z μ => match vs with
      | [v] => match seqT v with
        | some xs => if xs.length ≤ sizeLine then evN C kp cl f [z, .t (.tup xs)] μ else .bad
        | none => .bad
      | _ => .bad) Q := by
    cases q : F μ with
    | exc _ _ => simp only [q, R.bind, Out] at h
    | bad => simp only [q, R.bind, Out] at h
    | ok w μ1 =>
      simp only [q, R.bind] at h
      exact h
  refine step s l h fun w μ1 v H1 Z1 ad1 e s1 l1 x1 r1 h1 => ?_
  rw [e, R.st_ok]
  dsimp only
  cases e2 : toT w μ1 with
  | exc _ _ => simp only [toTs, e2, R.bind, Out] at h1
  | bad => simp only [toTs, e2, R.bind, Out] at h1
  | ok t μ2 =>
  obtain ⟨Z2, s2, x2, r2⟩ := toT_ok s1 r1 e2
  rw [R.st_ok]
  have h1 : Out Γ (rpW Γ) Z1 ad1 H1 ((G μ2).bind fun z μ => match seqT t with
        | some xs => if xs.length ≤ sizeLine then evN C kp cl f [z, .t (.tup xs)] μ else .bad
        | none => .bad) Q := by
    simp only [toTs, e2, R.bind] at h1
    exact h1
  refine step s2 (l1.ext x2) (h1.ext x2) fun z μ3 vz H3 Z3 ad3 e3 s3 l3 x3 r3 h3 => ?_
  have r4 := x3.rep r2
  cases t <;> first | exact False.elim h3 | skip
  · rename_i ts
    obtain ⟨h4, h5⟩ := out_if (p := ts.length ≤ sizeLine) h3
    simp only [Rep] at r4
    obtain ⟨q, xs, rfl, hq, hr'⟩ := r4
    exact ⟨q, xs, rfl, .inl (hK ▸ sqT_of hq), by rw [← hr'.length]; exact h4, fun q' dx hq' hdx hne p hp => makeV_imp hnp hc s3 r3 hr' h5 hq' hdx hne hp⟩
  · rename_i ts
    obtain ⟨h4, h5⟩ := out_if (p := ts.length ≤ sizeLine) h3
    simp only [Rep] at r4
    obtain ⟨q, xs, rfl, hz, hs, hr'⟩ := r4
    exact ⟨q, xs, rfl, .inr (sqL_of hs), by rw [← hr'.length]; exact h4, fun q' dx hq' hdx hne p hp => makeV_imp hnp hc s3 r3 hr' h5 hq' hdx hne hp⟩
end
end Sy
end

section
set_option Elab.async false
set_option linter.all false
set_option maxRecDepth 100000
set_option maxHeartbeats 1000000
/-! SgU: who walks a generator: ahead of a wake, behind it. -/
namespace Sg
open PySem PySem.Spec PyProof.Rows GenW L2 Sy
theorem inv_gens {X : L2.Cx} {pins : Pin} {σ : L2.St} {H : Hp} {s : Shared} {G : Array GenState} (I : Inv X pins σ H s) (hg : AllBare G) : Inv X pins σ H { s with gens := G } :=
  ⟨I.ok, I.os, hg, I.base, I.loc, I.cell, I.free, I.freeC, I.pin, I.hok, I.len⟩
theorem objOk_there {P : Program} {w : World} {H : Hp} {h : Heap} {a : Addr} {o : HO} (x : ObjOk P w H h a o) : ∃ ob, h.get? a = some ob := by
  cases o with
  | lst xs => obtain ⟨_, _, _, _, e⟩ := x; exact ⟨_, e⟩
  | tup xs => obtain ⟨_, _, _, ob, e, _⟩ := x; exact ⟨_, e⟩
  | dK kvs => obtain ⟨_, _, _, _, o, _, _, e, _⟩ := x; exact ⟨_, e⟩
  | dT kvs => obtain ⟨_, _, _, _, o, _, _, e, _⟩ := x; exact ⟨_, e⟩
  | set S n => obtain ⟨o, _, _, _, e, _⟩ := x; exact ⟨_, e⟩
  | ins C dx fs => obtain ⟨_, _, _, e, _⟩ := x; exact ⟨_, e⟩
  | own y => exact x
  | xd fs => obtain ⟨_, ⟨_, _, _, e, _⟩, _⟩ := x; exact ⟨_, e⟩
  | rng lo hi => obtain ⟨_, _, _, e⟩ := x; exact ⟨_, e⟩
  | frz ob u => obtain ⟨e, _⟩ := x; exact ⟨_, e⟩
  | tbl ps => exact ⟨_, (show h.get? a = some _ from x)⟩
  | met f y => exact ⟨_, (show h.get? a = some _ from x)⟩
  | ext φ => obtain ⟨_, e, _⟩ := x; exact e
theorem ste_nil {Γ : Tx} {Z : Addr → Prop} {ad : List Addr} {μ : Sto} {H : Hp} (s : Ste Γ Z ad μ H) : Ste Γ Z [] [] H := ⟨rfl, List.nodup_nil, s.zd, s.nf, fun n a e h => by simp at h⟩
/-- how the consumer's frame lies to the generator's context -/
structure Fit (X Y : L2.Cx) (pins : Pin) : Prop where
  prog : Y.prog = X.prog
  w : Y.w = X.w
  base : Y.base = X.base
  outer : Y.outer = X.stack
  ex : Y.ex = []
  lo : ∀ p ∈ X.pn ++ pins, p.1 < Y.s_0.heap.objs.size
  locl : X.env.locals < Y.s_0.heap.objs.size
  cel : ∀ x c, X.env.cells.lookup x = some c → c < Y.s_0.heap.objs.size
  sz : X.s_0.heap.objs.size ≤ Y.s_0.heap.objs.size
  stk : ∀ b ∈ frs X.stack, b < Y.s_0.heap.objs.size
  fs : ∀ b ∈ X.fs, b < Y.s_0.heap.objs.size
/-- the consumer, where the generator sleeps -/
structure Co (Γ : Tx) (X Y : L2.Cx) (A : Around) (pins : Pin) (a g : Nat) (go : Obj) (todo : List Sy.T) (s : Shared) (σ : L2.St) (H : Hp) (Z : Addr → Prop) (ad : List Addr) (μ : Sto) (priv : Pin) (gs : GenState) : Prop where
  inv : Inv X (pins ++ priv) σ H s
  ste : Ste Γ Z ad μ H
  gn : s.gens[g]? = some gs
  pn : Y.pn = [(a, go)]
  mem : (a, go) ∈ priv
  hi : ∀ p ∈ priv, Y.s_0.heap.objs.size ≤ p.1
  slp : ∃ Zs Hs, Wkr Zs Hs Z H ∧ Slp Γ Y A todo gs priv Zs Hs
section
variable {Γ : Tx} {X Y : L2.Cx} {A : Around} {pins priv : Pin} {a g : Nat} {go : Obj} {todo : List Sy.T} {s : Shared} {σ : L2.St} {H : Hp} {Z : Addr → Prop} {ad : List Addr} {μ : Sto} {gs : GenState}
theorem Co.at_ (c : Co Γ X Y A pins a g go todo s σ H Z ad μ priv gs) : s.heap.get? a = some go := (c.inv.pin (a, go) (List.mem_append_right _ (List.mem_append_right _ c.mem))).1
theorem co_wake (ft : Fit X Y pins) (c : Co Γ X Y A pins a g go todo s σ H Z ad μ priv gs) : GoS (model X.prog X.w) A (EndW Γ Y A todo (s.setGen g .running) H Z) gs (s.setGen g .running) := by
  obtain ⟨Zs, Hs, wk, sl⟩ := c.slp
  rw [slp_iff, ft.prog, ft.w] at sl
  have I := c.inv
  refine sl _ _ _ ⟨?_, allBare_setGen I.bare rfl, fun b o e => ?_, ?_, fun b hb => ?_, fun p hp => ?_, ?_, ste_nil c.ste, wk⟩
  · exact Nat.le_of_lt (Nat.lt_of_le_of_lt (c.hi _ c.mem) (Heap.lt_size c.at_))
  · rw [ft.base] at e; exact I.bs b o e
  · rw [ft.base, ft.outer]; exact I.stack
  · have hb : b ∈ frs X.stack := by rw [← ft.outer]; exact hb
    exact ⟨ft.stk b hb, I.stkFree b hb⟩
  · have q := I.pin p (List.mem_append_right _ (List.mem_append_right _ hp))
    exact ⟨q.1, q.2.1⟩
  · rw [ft.prog, ft.w]; exact I.hok
theorem co_told (ft : Fit X Y pins) (c : Co Γ X Y A pins a g go todo s σ H Z ad μ priv gs) {s2 : Shared} {H2 : Hp} {Z2 : Addr → Prop} (t : Told Γ Y (s.setGen g .running) H Z s2 H2 Z2) : Inv X pins σ H2 s2 ∧ Ste Γ Z2 ad μ H2 ∧ Ext Z ad H Z2 ad H2 := by
  have I0 : Inv X pins σ H s := c.inv.unpinned
  have out := ste_out (ns := []) (adc := []) c.ste List.nodup_nil .nil t.ste t.ext
  refine ⟨?_, out.1, out.2⟩
  have un := t.un
  rw [ft.ex] at un
  have hfs : Y.fs = frs X.stack := by show frs Y.outer = _; rw [ft.outer]
  rw [hfs] at un
  have hn : Y.s_0.heap.objs.size ≤ s.heap.objs.size := Nat.le_of_lt (Nat.lt_of_le_of_lt (c.hi _ c.mem) (Heap.lt_size c.at_))
  have nx : ∀ b : Addr, b ∉ ([] : List Addr) := fun b h => by simp at h
  have mem : ∀ b, b ∈ (List.range s.heap.objs.size).filter (fun b => decide (Y.s_0.heap.objs.size ≤ b) && (H b).isNone) ↔ b < s.heap.objs.size ∧ Y.s_0.heap.objs.size ≤ b ∧ H b = none := fun b => by
    rw [List.mem_filter, List.mem_range]
    simp
  have low : ∀ b o, s.heap.get? b = some o → H b = none → b ∉ (List.range s.heap.objs.size).filter (fun b => decide (Y.s_0.heap.objs.size ≤ b) && (H b).isNone) → (cut Y.s_0.heap.objs.size s.heap).get? b = some o := fun b o e n h => by
    have hb : b < Y.s_0.heap.objs.size := by
      rw [mem] at h
      exact Nat.lt_of_not_le fun z => h ⟨Heap.lt_size e, z, n⟩
    rw [cut_get hb]; exact e
  refine I0.call' (ch := (List.range s.heap.objs.size).filter fun b => decide (Y.s_0.heap.objs.size ≤ b) && (H b).isNone) t.os ⟨fun b o e n hb hx => ?_, fun b o e n hb hx => ?_, fun b o e n hx => ?_, fun b o e hx => ?_, un.tups, un.frzs, un.tbls⟩ ?_ t.bare fun b hb => ?_
  · exact un.keep b o (low b o e n hx) n hb (nx b)
  · exact un.slot b o (low b o e n hx) n hb (nx b)
  · exact un.free b o (low b o e n hx) n (nx b)
  · cases q : H b with
    | none => exact un.there b o (low b o e q hx) (nx b)
    | some u =>
      have : H2 b ≠ none := by
        by_cases z : Z b
        · intro z2
          have := t.ext.zk b z
          rw [strip_none.mpr z2] at this
          rw [strip_none.mp this.symm] at q
          cases q
        · rw [t.ext.fr b u q (nx b) z]; exact fun z => by cases z
      cases q2 : H2 b with
      | none => exact absurd q2 this
      | some u2 => exact objOk_there (t.hok b u2 q2)
  · rw [← ft.prog, ← ft.w]; exact t.hok
  · rw [mem] at hb
    obtain ⟨h1, h2, h3⟩ := hb
    refine ⟨.inr (Nat.le_trans ft.sz h2), Nat.ne_of_gt (Nat.lt_of_lt_of_le ft.locl h2), fun x c e => Nat.ne_of_lt (Nat.lt_of_lt_of_le (ft.cel x c e) h2), fun p hp => Nat.ne_of_lt (Nat.lt_of_lt_of_le (ft.lo p hp) h2)⟩
/-- asleep again -/
theorem co_next (ft : Fit X Y pins) (c : Co Γ X Y A pins a g go todo s σ H Z ad μ priv gs) {s2 s3 : Shared} {H2 : Hp} {Z2 : Addr → Prop} {priv2 : Pin} {gs2 : GenState} {todo2 : List Sy.T} (t : Told Γ Y (s.setGen g .running) H Z s2 H2 Z2)
    (hp : ∀ q ∈ priv2, s2.heap.get? q.1 = some q.2 ∧ H2 q.1 = none ∧ Y.s_0.heap.objs.size ≤ q.1 ∧ ∀ v, q.2.data ≠ .cell v) (hpn : ∀ q ∈ Y.pn, q ∈ priv2) (sl : Slp Γ Y A todo2 gs2 priv2 Z2 H2) (hs : s3 = s2.setGen g gs2) (hb : gs2.bare = true) (hg : g < s2.gens.size) :
    Co Γ X Y A pins a g go todo2 s3 σ H2 Z2 ad μ priv2 gs2 ∧ Ext Z ad H Z2 ad H2 := by
  subst hs
  obtain ⟨I, s1, x1⟩ := co_told ft c t
  refine ⟨⟨?_, s1, setGen_at hg, c.pn, hpn _ (by rw [c.pn]; simp), fun p h => (hp p h).2.2.1, Z2, H2, wkr_refl, sl⟩, x1⟩
  refine Inv.pins_of (pins := pins) (inv_gens I (allBare_setGen t.bare hb)) fun p hpp => ?_
  rcases List.mem_append.mp hpp with z | z
  · exact I.pin p (List.mem_append_right _ z)
  · obtain ⟨h1, h2, h3, h4⟩ := hp p z
    exact ⟨h1, h2, Nat.ne_of_gt (Nat.lt_of_lt_of_le ft.locl h3), fun z => absurd (Nat.lt_of_lt_of_le (ft.fs _ z) h3) (Nat.lt_irrefl _), h4⟩
end
end Sg
end

section
set_option Elab.async false
set_option linter.all false
set_option maxRecDepth 100000
set_option maxHeartbeats 1000000
/-! SgV: a generator is made by a call; a `for` walks it. -/
namespace Sg
open PySem PySem.Spec PyProof.Rows GenW L2 Sy
section
variable {Γ : Tx} {X : L2.Cx} {e tg : Expr} {es : List Expr} {sts : List Stmt} {FL : Sy.Env → Sto → R (List W)} {FG : W → Sy.Env → Sto → R Sy.Env} {FS : Sy.Env → Sto → O} {pos p cpos : Pos} {k : Nat} {fa : Addr} {fd : FuncData} {ps : List Str} {gen : List Sy.T → Option (List Sy.T)} {x : Str} {sl : List Nat}
/-- a generator has been made -/
def Made (Γ : Tx) (X : L2.Cx) (pins : Pin) (σ : L2.St) (k : Nat) (ys : List Sy.T) (Z0 : Addr → Prop) (ad0 : List Addr) (H0 : Hp) (μ1 : Sto) (u : Value) (s' : Shared) : Prop :=
  ∃ (H1 : Hp) (Z1 : Addr → Prop) (ad1 : List Addr) (a g : Nat) (go : Obj) (c : Code) (priv : Pin), u = .ref a ∧ (∀ h : Heap, h.get? a = some go → h.IsGen a g) ∧ Ste Γ Z1 ad1 μ1 H1 ∧ Ext Z0 ad0 H0 Z1 ad1 H1 ∧ Inv X (pins ++ priv) σ H1 s' ∧ s'.gens[g]? = some (.fresh c) ∧
    ∀ Aw : Around, Room k Aw → Aw.frames = some X.stack → ∃ Y, Fit X Y pins ∧ Co Γ X Y Aw pins a g go ys s' σ H1 Z1 ad1 μ1 priv (.fresh c)
theorem run_gcall (G : GFnS Γ X.prog X.w X.K X.mg X.base k fa fd ps gen) (hr : X.A.depth < recursionLimit) (hg : Gl X x) (hm : X.mg x = some (.ref fa)) (hk : PySem.W.keepIn X.K (.ref fa) = true) (hb : Binds X.K fd ps [])
    (hl : ∀ ρ, SA Γ X ρ (e :: es) (FL ρ)) (hp : plainsX (e :: es) = true) (hdb : (x == ("__debug__" : Str)) = false) {pins : Pin} {s : Shared} {σ : L2.St} {H : Hp} {Z : Addr → Prop} {ad : List Addr} {ρ : Sy.Env} {μ μ0 μ1 : Sto} {ws : List W} {ts ys : List Sy.T} (hx : X.xe = fun _ _ => False)
    (I : Inv X pins σ H s) (st : Ste Γ Z ad μ H) (l : Slo Γ Z ad ρ σ H) (h1 : FL ρ μ = .ok ws μ0) (h2 : toTs ws μ0 = .ok ts μ1) (h3 : gen ts = some ys) :
    wpAny (model X.prog X.w) X.A (eval (.Call (.Name x p) (e :: es) [] pos) X.env) (fun u s' => Made Γ X pins σ k ys Z ad H μ1 u s') X.xe s := by
  have hp : plainX e = true ∧ plainsX es = true := by simpa [plainsX] using hp
  refine wpAny_Call_Name_kw (ld_glob I hg hm ?_ hdb)
  refine PySem.W.callWith_K (h₀ := X.base) I.ok.mod.kin hk (thn ((hl ρ μ).run pos pins s σ H (fun vs H1 => ∃ Z1 ad1, Ste Γ Z1 ad1 μ1 H1 ∧ Ext Z ad H Z1 ad1 H1 ∧ Reps Γ Z1 (strip H1) ts vs) I ⟨Z, ad, st, l, ?_⟩) fun us s1 ⟨vs, H1, I1, r, Z1, ad1, st1, x1, rp⟩ => ⟨I1.kIn, ?_⟩) (star_of hp.1) (plain_any hp.2)
  · rw [h1]
    intro vs H' Z' ad' s' x' r'
    obtain ⟨Z2, s2, x2, r2⟩ := toTs_ok s' r' h2
    exact ⟨Z2, ad', s2, x'.trans x2, r2⟩
  · have hlen : (us ++ []).length = ps.length := by
      rw [List.append_nil, ← r.length, ← rp.length]; exact G.len _ _ h3
    have bt := hb s1 us I1.kIn hlen
    rw [List.append_nil] at bt
    refine wpAny_call (codeAny_mono (G.run X.A X.stack s1 H1 ⟨us, []⟩ us vs Z1 ts ys hr I1.env0 bt r (ste_nil st1) rp h3) fun r s' hq => ?_)
    cases r with
    | error e => exact False.elim hq
    | ok fl =>
      cases fl with
      | next => exact False.elim hq
      | brk => exact False.elim hq
      | cont => exact False.elim hq
      | ret u =>
        obtain ⟨a, g, go, c, priv, eu, M⟩ := hq
        have I2 : Inv X pins σ H1 s' := I1.call' (ch := []) M.os (Un.kept M.kept) (I1.hok.kept M.kept) M.bare fun b z => by simp at z
        have I3 : Inv X (pins ++ priv) σ H1 s' := I2.pins_of fun q hq => by
          rcases List.mem_append.mp hq with z | z
          · exact I2.pin q (List.mem_append_right _ z)
          · obtain ⟨g1, g2, g3⟩ := M.pr q z
            exact ⟨g1, I1.hok.fresh g2, Nat.ne_of_gt (Nat.lt_of_lt_of_le I1.lt g2), I1.nofs g2, g3⟩
        refine ⟨H1, Z1, ad1, a, g, go, c, priv, eu, M.isg, st1, x1, I3, M.gn, fun Aw hrw hfr => ?_⟩
        obtain ⟨Y, y1, y2, y3, y4, y5, y6, y7, sl⟩ := M.slp Aw hrw hfr
        refine ⟨Y, ⟨y1, y2, y3, y4, y6, fun q hq => ?_, ?_, fun y c e => ?_, ?_, fun b hb => ?_, fun b hb => ?_⟩, ⟨I3, st1, M.gn, y7, M.mem, fun q hq => ?_, Z1, H1, wkr_refl, sl⟩⟩
        · rw [y5]; exact Heap.lt_size (I1.pin q hq).1
        · rw [y5]; exact I1.lt
        · rw [y5]; obtain ⟨v, q⟩ := I1.cell y c e; exact q.lt
        · rw [y5]; exact I1.sz
        · rw [y5]; obtain ⟨_, o, ho, _⟩ := I1.stack.mem hb; exact Heap.lt_size ho
        · rw [y5]; obtain ⟨_, o, ho, _⟩ := I1.funs.mem hb; exact Heap.lt_size ho
        · rw [y5]; exact (M.pr q hq).2.1
theorem co_beside {Y : L2.Cx} {A : Around} {pins priv : Pin} {a g : Nat} {go : Obj} {todo : List Sy.T} {s s0 s' : Shared} {σ σ' : L2.St} {H H' : Hp} {Z Z' : Addr → Prop} {ad ad' : List Addr} {μ μ' : Sto} {gs : GenState} (c : Co Γ X Y A pins a g go todo s σ H Z ad μ priv gs) (b : Beside s s0 s') (ha : asleep gs)
    (I : Inv X (pins ++ priv) σ' H' s0) (st : Ste Γ Z' ad' μ' H') (wk : Wkr Z H Z' H') : Co Γ X Y A pins a g go todo s' σ' H' Z' ad' μ' priv gs := by
  obtain ⟨Zs, Hs, w1, sl⟩ := c.slp
  obtain ⟨G, e⟩ := b.same
  have hb := b.bare c.inv.bare I.bare
  refine ⟨?_, st, b.slp _ _ c.gn ha, c.pn, c.mem, c.hi, Zs, Hs, w1.trans wk, sl⟩
  rw [e] at hb ⊢
  exact inv_gens I hb
theorem ss_forg {dr : List Nat} (hx : X.xe = fun _ _ => False) (hc : X.calm = true) (G : GFnS Γ X.prog X.w X.K X.mg X.base k fa fd ps gen) (hr : Room (k + 1) X.A) (hg : Gl X x) (hm : X.mg x = some (.ref fa)) (hk : PySem.W.keepIn X.K (.ref fa) = true) (hb : Binds X.K fd ps [])
    (hl : ∀ ρ, SA Γ X ρ (e :: es) (FL ρ)) (hp : plainsX (e :: es) = true) (hdb : (x == ("__debug__" : Str)) = false) (htg : SGt Γ X sl tg FG) (hbd : SSs Γ X sts FS) (hs : ∀ v, foldedSetIterable (.Call (.Name x p) (e :: es) [] cpos) X.env v = pure v) :
    SS Γ X (.For tg (.Call (.Name x p) (e :: es) [] cpos) sts [] pos) fun ρ μ => (FL ρ μ).out fun ws μ => (toTs ws μ).out fun ts μ => match gen ts with
      | some ys => forL (fun y ρ μ => (FG (.t y) ρ μ).out fun ρ μ => FS ρ μ) dr ys ρ μ
      | none => .bad := fun ρ μ => by
  refine ⟨fun pins s σ H D I ⟨Z, ad, st, l, h⟩ => ?_⟩
  cases h1 : FL ρ μ with
  | exc _ _ => simp only [h1, R.out, OutS] at h
  | bad => simp only [h1, R.out, OutS] at h
  | ok ws μ0 =>
    cases h2 : toTs ws μ0 with
    | exc _ _ => simp only [h1, h2, R.out, OutS] at h
    | bad => simp only [h1, h2, R.out, OutS] at h
    | ok ts μ1 =>
      cases h3 : gen ts with
      | none => simp only [h1, h2, h3, R.out, OutS] at h
      | some ys =>
        have h : OutS Γ Z ad H ((FL ρ μ).out fun ws μ => (toTs ws μ).out fun ts μ => match gen ts with
          | some ys => forL (fun y ρ μ => (FG (.t y) ρ μ).out fun ρ μ => FS ρ μ) dr ys ρ μ
          | none => .bad) D := h
        rw [h1] at h
        have h : OutS Γ Z ad H ((toTs ws μ0).out fun ts μ => match gen ts with
          | some ys => forL (fun y ρ μ => (FG (.t y) ρ μ).out fun ρ μ => FS ρ μ) dr ys ρ μ
          | none => .bad) D := h
        rw [h2] at h
        have h : OutS Γ Z ad H (match gen ts with
          | some ys => forL (fun y ρ μ => (FG (.t y) ρ μ).out fun ρ μ => FS ρ μ) dr ys ρ μ1
          | none => .bad) D := h
        rw [h3] at h
        have h : OutS Γ Z ad H (forL (fun y ρ μ => (FG (.t y) ρ μ).out fun ρ μ => FS ρ μ) dr ys ρ μ1) D := h
        have hpx : PassesOwn (model X.prog X.w) X.A X.env X.xe := by rw [hx]; exact PassesOwn.never
        refine wpAny_For (thn (run_gcall G hr.depth hg hm hk hb hl hp hdb hx I st l h1 h2 h3) fun v s1 hM => ?_) hs
        obtain ⟨H1, Z1, ad1, a, g, go, c, priv, rfl, isg, st1, x1, I1, gn1, mk⟩ := hM
        obtain ⟨Y, ft, co1⟩ := mk X.A.in1 hr.in1 I1.ok.frames
        refine wpAny_pyIter_gen (isg _ co1.at_) ?_
        refine codeAny_forLoop_any (fun n s' => ∃ (todo : List Sy.T) (σ' : L2.St) (H' : Hp) (Z' : Addr → Prop) (ad' : List Addr) (ρ' : Sy.Env) (μ' : Sto) (priv : Pin) (gs : GenState), todo.length = n ∧ Co Γ X Y X.A.in1 pins a g go todo s' σ' H' Z' ad' μ' priv gs ∧ Slo Γ Z' ad' ρ' σ' H' ∧ Ext Z ad H Z' ad' H' ∧
          OutS Γ Z ad H (forL (fun y ρ μ => (FG (.t y) ρ μ).out fun ρ μ => FS ρ μ) dr todo ρ' μ') D) ?_ ys.length ⟨ys, σ, H1, Z1, ad1, ρ, μ1, priv, .fresh c, rfl, co1, l.ext x1, x1, h⟩
        rintro n s3 ⟨todo, σ3, H3, Z3, ad3, ρ3, μ3, priv3, gs3, hn, co, l3, x3, h⟩
        have hgl : g < s3.gens.size := (Array.getElem?_eq_some_iff.mp co.gn).1
        refine wpAny_gsz (n := g + 1) hgl (next_genS (E := _) (co.inv.ok.hd hc) co.inv.nolimit hr.depth (isg _ co.at_) co.gn (co_wake ft co) fun e s4 he => ?_)
        cases todo with
        | nil =>
          obtain ⟨he, H4, Z4, told⟩ := he
          have fin : ∀ h', (∀ b o, s4.heap.get? b = some o → h'.get? b = some o) → g + 1 ≤ s4.gens.size → wpAny (model X.prog X.w) X.A (execs [] X.env) (fun f s' => match (Except.ok f : Result) with | .ok f => SP X pins D f s' | .error e => cameBackBy (model X.prog X.w) X.A X.env X.xe e s') (notedBy (model X.prog X.w) X.A X.env fun e s' => cameBackBy (model X.prog X.w) X.A X.env X.xe e s') { s4.setGen g .finished with heap := h' } := fun h' hk' _ => by
            obtain ⟨I4, st4, x4⟩ := co_told ft co told
            have I5 : Inv X pins σ3 H4 { s4.setGen g .finished with heap := h' } := (inv_gens I4 (allBare_setGen (g := g) (x := .finished) told.bare rfl)).kept (t' := s4.toks) hk'
            exact wpAny_execs_nil ⟨σ3, H4, I5, h σ3 H4 Z4 ad3 st4 (x3.trans x4) (l3.ext x4)⟩
          rcases he with rfl | rfl
          · exact fun h' hk' hsz => fin h' hk' (by
              have hsz : g + 1 ≤ (s4.setGen g .finished).gens.size := hsz
              rw [setGen_size] at hsz; exact hsz)
          · exact fun h' hk' hsz => fin h' hk' (by
              have hsz : g + 1 ≤ (s4.setGen g .finished).gens.size := hsz
              rw [setGen_size] at hsz; exact hsz)
        | cons y rest =>
          cases e with
          | ret r => exact he.elim
          | susp v g' l' kk c' p' fs' =>
            obtain ⟨hq, H4, Z4, priv4, xv, told, hpr, hpn, rv, rep, sl⟩ := he
            refine ⟨hq, fun hsz => ?_⟩
            have hsz' : g < s4.gens.size := by
              have hsz : g + 1 ≤ (s4.setGen g (End.susp v g' l' kk c' p' fs').genState).gens.size := hsz
              rw [setGen_size] at hsz; exact hsz
            obtain ⟨co4, x4⟩ := co_next (gs2 := (End.susp v g' l' kk c' p' fs').genState) ft co told hpr hpn sl rfl hq hsz'
            have asl : asleep (End.susp v g' l' kk c' p' fs').genState := trivial
            have l4 := l3.ext x4
            obtain ⟨o, nm, qn, ho, hcls, hdt, _⟩ := isg _ co4.at_
            refine go_of ho hcls hdt (by decide) ?_
            have h : OutB Γ Z ad H ((FG (.t y) ρ3 μ3).out fun ρ μ => FS ρ μ) D (fun ρ μ => forL (fun y ρ μ => (FG (.t y) ρ μ).out fun ρ μ => FS ρ μ) dr rest ρ μ) dr := h
            cases q5 : FG (.t y) ρ3 μ3 with
            | exc _ _ => rw [q5] at h; exact h.elim
            | bad => rw [q5] at h; exact h.elim
            | ok ρ5 μ5 =>
              rw [q5] at h
              have h : OutB Γ Z ad H (FS ρ5 μ5) D (fun ρ μ => forL (fun y ρ μ => (FG (.t y) ρ μ).out fun ρ μ => FS ρ μ) dr rest ρ μ) dr := h
              have run1 := (htg (.t y) ρ3 μ3).run (pins ++ priv4) (lull (s4.setGen g (End.susp v g' l' kk c' p' fs').genState)) σ3 H4 xv v (fun σ5 H5 => ∃ Z5 ad5, Ste Γ Z5 ad5 μ5 H5 ∧ Ext Z4 ad3 H4 Z5 ad5 H5 ∧ Slo Γ Z5 ad5 ρ5 σ5 H5) (inv_gens co4.inv (allBare_lull co4.inv.bare)) rv ⟨Z4, ad3, co4.ste, l4, rep, by
                rw [q5]
                intro σ5 H5 Z5 ad5 s5 x5 r5
                exact ⟨Z5, ad5, s5, x5, r5.1⟩⟩
              refine wpAny_mono (wpAny_beside run1) (fun _ s5 ⟨s50, ⟨σ5, H5, I5, Z5, ad5, st5, x5, l5⟩, bs5⟩ => ?_) fun x s' ⟨s0, hx0, _⟩ => by rw [hx] at hx0; exact hx0.elim
              have co5 := co_beside co4 bs5 asl I5 st5 x5.wk
              have xx5 := (x3.trans x4).trans x5
              have run2 := (hbd ρ5 μ5).run (pins ++ priv4) (lull s5) σ5 H5 { D with nx := fun σ' H' => ∃ ρ' μ' Z' ad', Ste Γ Z' ad' μ' H' ∧ Ext Z ad H Z' ad' H' ∧ Slo Γ Z' ad' ρ' σ' H' ∧ Wkr Z5 H5 Z' H' ∧ OutS Γ Z ad H (forL (fun y ρ μ => (FG (.t y) ρ μ).out fun ρ μ => FS ρ μ) dr rest ρ' μ') D, ct := fun σ' H' => ∃ ρ' μ' Z' ad', Ste Γ Z' ad' μ' H' ∧ Ext Z ad H Z' ad' H' ∧ Slo Γ Z' ad' ρ' σ' H' ∧ Wkr Z5 H5 Z' H' ∧ OutS Γ Z ad H (forL (fun y ρ μ => (FG (.t y) ρ μ).out fun ρ μ => FS ρ μ) dr rest ρ' μ') D, bk := D.nx }
                (inv_gens co5.inv (allBare_lull co5.inv.bare)) ⟨Z5, ad5, st5, l5, outB_ok h xx5 fun ρ6 μ6 σ6 H6 Z6 ad6 s6 x6 l6 h6 => ⟨_, μ6, Z6, ad6, s6, xx5.trans x6, l6, x6.wk, h6⟩⟩
              refine wpAny_mono (wpAny_beside run2) (fun f s6 ⟨s60, hs6, bs6⟩ => ?_) fun x s' ⟨s0, hx0, _⟩ => by rw [hx] at hx0; exact hx0.elim
              have again : ∀ {σ6 : L2.St} {H6 : Hp}, Inv X (pins ++ priv4) σ6 H6 s60 → (∃ ρ' μ' Z' ad', Ste Γ Z' ad' μ' H6 ∧ Ext Z ad H Z' ad' H6 ∧ Slo Γ Z' ad' ρ' σ6 H6 ∧ Wkr Z5 H5 Z' H6 ∧ OutS Γ Z ad H (forL (fun y ρ μ => (FG (.t y) ρ μ).out fun ρ μ => FS ρ μ) dr rest ρ' μ') D) →
                  ∃ m, m < n ∧ ∃ (todo : List Sy.T) (σ' : L2.St) (H' : Hp) (Z' : Addr → Prop) (ad' : List Addr) (ρ' : Sy.Env) (μ' : Sto) (priv : Pin) (gs : GenState), todo.length = m ∧ Co Γ X Y X.A.in1 pins a g go todo s6 σ' H' Z' ad' μ' priv gs ∧ Slo Γ Z' ad' ρ' σ' H' ∧ Ext Z ad H Z' ad' H' ∧
                    OutS Γ Z ad H (forL (fun y ρ μ => (FG (.t y) ρ μ).out fun ρ μ => FS ρ μ) dr todo ρ' μ') D := fun {σ6 H6} I6 ⟨ρ6, μ6, Z6, ad6, st6, x6, l6, wk6, h6⟩ =>
                ⟨rest.length, by rw [← hn]; exact Nat.lt_succ_self _, rest, σ6, H6, Z6, ad6, ρ6, μ6, priv4, _, rfl, co_beside co5 bs6 asl I6 st6 wk6, l6, x6, h6⟩
              have back : ∀ {σ6 : L2.St} {H6 : Hp}, Inv X (pins ++ priv4) σ6 H6 s60 → Inv X pins σ6 H6 s6 := fun {σ6 H6} I6 => by
                obtain ⟨G', e6⟩ := bs6.same
                have hb6 := bs6.bare co5.inv.bare I6.bare
                rw [e6] at hb6 ⊢
                exact (inv_gens I6 hb6).unpinned
              cases f with
              | next => obtain ⟨σ6, H6, I6, n6⟩ := hs6; exact again I6 n6
              | cont => obtain ⟨σ6, H6, I6, n6⟩ := hs6; exact again I6 n6
              | brk => obtain ⟨σ6, H6, I6, n6⟩ := hs6; exact ⟨σ6, H6, back I6, n6⟩
              | ret v6 => obtain ⟨x6, σ6, H6, I6, r6, n6⟩ := hs6; exact ⟨x6, σ6, H6, back I6, r6, n6⟩
end
end Sg
end

section
set_option Elab.async false
set_option linter.all false
set_option maxRecDepth 100000
set_option maxHeartbeats 1000000
/-! SgW: list(g). -/
namespace Sg
open PySem PySem.Spec PyProof.Rows GenW L2 Sy
section
variable {Γ : Tx} {X Y : L2.Cx} {pins : Pin} {σ : L2.St} {Z0 : Addr → Prop} {ad0 ad : List Addr} {H0 : Hp} {μ : Sto}
theorem co_write {A : Around} {priv : Pin} {a g : Nat} {go : Obj} {todo : List Sy.T} {s : Shared} {H : Hp} {Z : Addr → Prop} {gs : GenState} (c : Co Γ X Y A pins a g go todo s σ H Z ad μ priv gs) {S : Addr} {o o' : HO} {h' : Heap} (hS : H S = some o) (mu : Mut (H S)) (nf : noFrz o) (nf' : noFrz o') (hd : S ∉ ad) (hz : ¬ Z S)
    (k : ∀ b u, b ≠ S → s.heap.get? b = some u → h'.get? b = some u) (new : ObjOk X.prog X.w (upd H S o') h' S o') : Co Γ X Y A pins a g go todo { s with heap := h' } σ (upd H S o') Z ad μ priv gs := by
  obtain ⟨Zs, Hs, w1, sl⟩ := c.slp
  refine ⟨c.inv.write (t' := s.toks) mu (.inl rfl) k (objOk_there new) new, c.ste.other nf' hd hz, c.gn, c.pn, c.mem, c.hi, Zs, Hs, w1.trans ⟨fun _ h => h, fun b hb => strip_ne nf' fun e => hz (e ▸ hb), fun b ob u e => ?_⟩, sl⟩
  rw [upd_ne]
  · exact e
  · intro z
    rw [z, hS] at e
    cases e
    exact nf
theorem drainS {A : Around} {R : Result → Shared → Prop} {S a : Addr} {g : Nat} {go : Obj} {res : Value} (ft : Fit X Y pins) (isg : ∀ h : Heap, h.get? a = some go → h.IsGen a g) (hh : A.handled = none) (hd : A.depth < recursionLimit) (h0 : H0 S = none) :
    ∀ (todo done : List Sy.T) (vs : List V) (s : Shared) (H : Hp) (Z : Addr → Prop) (priv : Pin) (gs : GenState), Co Γ X Y A.in1.in1 pins a g go todo s σ H Z ad μ priv gs → Ext Z0 ad0 H0 Z ad H → H S = some (.lst vs) → S ∉ ad → ¬ Z S → Reps Γ Z (strip H) done vs → (done ++ todo).length < sizeLine →
      (∀ s' H' Z' vs', Inv X pins σ H' s' → Ste Γ Z' ad μ H' → Ext Z0 ad0 H0 Z' ad H' → H' S = some (.lst vs') → ¬ Z' S → Reps Γ Z' (strip H') (done ++ todo) vs' → R (.ok (.ret res)) s') →
      codeAny (model X.prog X.w) A (.builtin "list.extend.loop" ⟨[.ref S, .ref a, res], []⟩) R s := by
  intro todo
  induction todo with
  | nil =>
    intro done vs s H Z priv gs co x0 hS hSa hSz rp hlen hR
    have hgl : g < s.gens.size := (Array.getElem?_eq_some_iff.mp co.gn).1
    refine codeAny_builtin F.entry_extend_loop ?_
    rw [Around.under_plainId F.plain_extend_loop _]
    show wpAny _ A.in1 (pyNext (.ref a) >>= _) _ _ s
    refine wpAny_bind (next_genS (A := A.in1) hh co.inv.nolimit hd (isg _ co.at_) co.gn (co_wake ft co) fun e s4 he => ?_)
    obtain ⟨he, H4, Z4, told⟩ := he
    have fin : ∀ h', (∀ b o, s4.heap.get? b = some o → h'.get? b = some o) → R (.ok (.ret res)) { s4.setGen g .finished with heap := h' } := fun h' hk' => by
      obtain ⟨I4, st4, x4⟩ := co_told ft co told
      have I5 : Inv X pins σ H4 { s4.setGen g .finished with heap := h' } := (inv_gens I4 (allBare_setGen (g := g) (x := .finished) told.bare rfl)).kept (t' := s4.toks) hk'
      obtain ⟨k1, k2, k3⟩ := x4.keep hS hSa hSz
      exact hR _ H4 Z4 vs I5 st4 (x0.trans x4) k1 k3 (by rw [List.append_nil]; exact x4.reps rp)
    rcases he with rfl | rfl
    · exact fun h' hk' => wpAny_pure (fin h' hk')
    · exact fun h' hk' => wpAny_pure (fin h' hk')
  | cons y rest ih =>
    intro done vs s H Z priv gs co x0 hS hSa hSz rp hlen hR
    have hgl : g < s.gens.size := (Array.getElem?_eq_some_iff.mp co.gn).1
    refine codeAny_builtin F.entry_extend_loop ?_
    rw [Around.under_plainId F.plain_extend_loop _]
    show wpAny _ A.in1 (pyNext (.ref a) >>= _) _ _ s
    refine wpAny_bind (wpAny_gsz (n := g + 1) hgl (next_genS (A := A.in1) hh co.inv.nolimit hd (isg _ co.at_) co.gn (co_wake ft co) fun e s4 he => ?_))
    cases e with
    | ret r => exact he.elim
    | susp v g' l' kk c' p' fs' =>
      obtain ⟨hq, H4, Z4, priv4, xv, told, hpr, hpn, rv, rep, sl⟩ := he
      refine ⟨hq, fun hsz => ?_⟩
      have hsz' : g < s4.gens.size := by
        have hsz : g + 1 ≤ (s4.setGen g (End.susp v g' l' kk c' p' fs').genState).gens.size := hsz
        rw [setGen_size] at hsz; exact hsz
      obtain ⟨co4, x4⟩ := co_next (gs2 := (End.susp v g' l' kk c' p' fs').genState) ft co told hpr hpn sl rfl hq hsz'
      obtain ⟨k1, k2, k3⟩ := x4.keep hS hSa hSz
      have ob := co4.inv.hok S _ k1
      obtain ⟨z1, its, n1, r1, e1⟩ := id ob
      have rp4 := x4.reps rp
      have hvl : vs.length = done.length := rp.length.symm
      have hil : its.length = vs.length := r1.length.symm
      have hlen' : done.length + (rest.length + 1) < sizeLine := by
        rw [List.length_append] at hlen
        exact hlen
      show wpAny _ A.in1 (updateSeq S (·.push v) >>= _) _ _ _
      refine wpAny_bind ?_
      refine wpAny_updateSeq e1 rfl (wpAny_pure ⟨plainId_quiet F.plain_extend_loop _, ?_⟩) (by show its.toArray.size ≤ _; rw [List.size_toArray]; omega) (by show (its.toArray.push v).size ≤ sizeLine + 1; rw [Array.size_push, List.size_toArray]; omega)
      have e2 := Heap.get?_update_self (Obj.mapSeq (·.push v)) e1 rfl
      have nS : ObjOk X.prog X.w (upd H4 S (.lst (vs ++ [xv]))) ((s4.setGen g (End.susp v g' l' kk c' p' fs').genState).heap.update S (Obj.mapSeq (·.push v))) S (.lst (vs ++ [xv])) := by
        obtain ⟨n2, e3⟩ : ∃ n2, Obj.mapSeq (·.push v) { cls := .type "list", data := .seq its.toArray n1 } = { cls := .type "list", data := .seq (its.toArray.push v) n2 } := ⟨_, rfl⟩
        rw [e3, List.push_toArray] at e2
        exact ⟨by rw [List.length_append, List.length_singleton]; omega, its ++ [v], n2, r1.append (.cons rv .nil), e2⟩
      have co5 := co_write (o' := .lst (vs ++ [xv])) co4 k1 (by rw [k1]; trivial) trivial trivial k2 k3 (fun b u hb e => (Heap.get?_update_other _ _ (Ne.symm hb)).trans e) nS
      have zk : ∀ b, Z4 b → strip (upd H4 S (.lst (vs ++ [xv]))) b = strip H4 b := fun b hb => strip_ne trivial fun e => k3 (e ▸ hb)
      refine ih (done ++ [y]) (vs ++ [xv]) _ _ Z4 priv4 _ co5 ((x0.trans x4).other h0 k2 k3 trivial) upd_same k2 k3 ?_ (by rw [List.append_assoc]; exact hlen) (by rw [List.append_assoc]; exact hR)
      exact Reps.append (Reps.mono (fun _ z => z) zk _ _ rp4) (.cons (Rep.mono (fun _ z => z) zk _ _ rep) (reps_nil.mpr rfl))
/-- list(g) -/
theorem call_list_gen {A : Around} {a : Addr} {g : Nat} {go : Obj} {c : Code} {s : Shared} {H : Hp} {Z : Addr → Prop} {ys : List Sy.T} {priv : Pin} {Q' : Value → Shared → Prop} {E : Value → Shared → Prop} {m : Nat} (hr : Room (m + 3) A)
    (ft : Fit X Y pins) (isg : ∀ h : Heap, h.get? a = some go → h.IsGen a g) (co : Co Γ X Y A.in1.in1.in1 pins a g go ys s σ H Z ad μ priv (.fresh c)) (hlen : ys.length < sizeLine)
    (hQ : ∀ S s' H' Z' vs', s.heap.objs.size ≤ S → Inv X pins σ H' s' → Ste Γ Z' ad μ H' → Ext Z ad H Z' ad H' → H' S = some (.lst vs') → H S = none → S ∉ ad → ¬ Z' S → Reps Γ Z' (strip H') ys vs' → Q' (.ref S) s') :
    wpAny (model X.prog X.w) A (call (.type "list") [.ref a]) Q' E s := by
  have I := co.inv
  have hga : s.heap.IsGen a g := isg _ co.at_
  have hSa : s.heap.objs.size ≠ a := Nat.ne_of_gt (Heap.lt_size co.at_)
  refine callType_codes (Q₁ := fun obj s₁ => obj = .ref s.heap.objs.size ∧ s₁ = { s with heap := s.heap.push { cls := .type "list", data := .seq #[] } }) F.called_list (F.typeCall_list_1 _) F.entry_list_init
    (code_list_new _ ⟨rfl, rfl⟩) fun obj s₁ h₁ => ?_
  obtain ⟨rfl, rfl⟩ := h₁
  have hS : (s.heap.push { cls := .type "list", data := .seq #[] }).get? s.heap.objs.size = some { cls := .type "list", data := .seq #[] } := Heap.get?_push_size _ rfl
  refine ⟨⟨_, hS, rfl⟩, F.args_list_init_2 _ _, ?_⟩
  show wpAny _ A.in1.in1 (do let old ← Builtin.List.listItems (.ref s.heap.objs.size); Builtin.List.listUpdate (.ref s.heap.objs.size) (fun _ => #[]); letGo old.toList.reverse; Builtin.List.listExtendWith (.ref s.heap.objs.size) (.ref a) .none) _ _ _
  refine wpAny_bind ?_
  unfold Builtin.List.listItems
  refine wpAny_bind (wpAny_seqItems hS rfl (wpAny_pure ?_))
  show wpAny _ A.in1.in1 (updateSeq s.heap.objs.size (fun _ => #[]) >>= fun _ => letGo (#[] : Array Value).toList.reverse >>= fun _ => Builtin.List.listExtendWith (.ref s.heap.objs.size) (.ref a) .none) _ _ _
  refine wpAny_bind (wpAny_updateSeq hS rfl ?_)
  have hS2 := Heap.get?_update_self (Obj.mapSeq (fun _ => (#[] : Array Value))) hS rfl
  refine wpAny_bind (wpAny_letGo ?_)
  unfold Builtin.List.listExtendWith
  have up : ∀ (h : Heap) (f : Obj → Obj), (∀ b o, s.heap.get? b = some o → h.get? b = some o) → ∀ b o, s.heap.get? b = some o → (h.update s.heap.objs.size f).get? b = some o := fun h f q b o e =>
    (Heap.get?_update_other _ _ (Ne.symm (Nat.ne_of_lt (Heap.lt_size e)))).trans (q b o e)
  have k1 : ∀ b o, s.heap.get? b = some o → (s.heap.push { cls := .type "list", data := .seq #[] }).get? b = some o := fun b o e => Heap.get?_push_of_some _ e
  have k2 := up _ (Obj.mapSeq (fun _ => (#[] : Array Value))) k1
  have gty : ∀ {h : Heap}, (∀ b o, s.heap.get? b = some o → h.get? b = some o) → h.IsGen a g := fun {h} q => hga.keeps q
  refine wpAny_bind (wpAny_typeOf (Heap.IsGen.typeIs (s := { s with heap := _ }) (gty k2)) ?_)
  have h1 : Builtin.List.listSameRef (.ref s.heap.objs.size) (.ref a) = false := by simp [Builtin.List.listSameRef, hSa]
  have h2 : (Value.type "generator" == Value.type "list") = false := by decide
  have h3 : (Value.type "generator" == Value.type "tuple") = false := by decide
  simp only [h1, h2, h3, Bool.or_false, Bool.false_eq_true, if_false]
  refine wpAny_bind (wpAny_pyIter_gen (s := { s with heap := _ }) (gty k2) ?_)
  refine wpAny_bind (wpAny_holding ?_)
  unfold Builtin.List.listLengthHint
  refine wpAny_bind (wpAny_specialOf (Heap.IsGen.typeIs (s := { s with heap := _ }) (gty k2)) F.gen_no_len ?_)
  show wpAny _ A.in1.in1 (specialOf (Value.ref a) (Str.ofString "__length_hint__") >>= _) _ _ _
  refine wpAny_bind (wpAny_specialOf (Heap.IsGen.typeIs (s := { s with heap := _ }) (gty k2)) F.gen_no_hint ?_)
  refine wpAny_pure ?_
  show wpAny _ A.in1.in1 (rule "list.extend.makes-room" >>= fun _ => Builtin.List.listTouch (.ref s.heap.objs.size) >>= fun _ =>
    again (.builtin "list.extend.loop" ⟨[.ref s.heap.objs.size, .ref a, .none], []⟩)) _ _ _
  refine wpAny_bind (wpAny_rule ?_)
  refine wpAny_bind ?_
  show wpAny _ A.in1.in1 (updateSeq s.heap.objs.size (·.push .none) >>= fun _ => updateSeq s.heap.objs.size (·.pop)) _ _ _
  refine wpAny_bind (wpAny_updateSeq hS2 rfl ?_)
  have hS3 := Heap.get?_update_self (Obj.mapSeq (·.push Value.none)) hS2 rfl
  refine wpAny_updateSeq (hz := by seq_fits) hS3 rfl ?_
  have hS4 := Heap.get?_update_self (Obj.mapSeq (·.pop)) hS3 rfl
  have k4 := up _ (Obj.mapSeq (·.pop)) (up _ (Obj.mapSeq (·.push Value.none)) k2)
  refine wpAny_pure ⟨plainId_quiet F.plain_extend_loop _, ?_⟩
  have hfree : H s.heap.objs.size = none := I.hok.fresh (Nat.le_refl _)
  have hSad : s.heap.objs.size ∉ ad := fun z => co.ste.dom z hfree
  have hSz : ¬ Z s.heap.objs.size := fun z => co.ste.zd _ z hfree
  have new := fun (H' : Hp) => (show ObjOk X.prog X.w H' _ s.heap.objs.size (.lst []) from ⟨Nat.zero_le _, [], _, .nil, hS4⟩)
  have I5 := I.laid (t' := s.toks) k4 (Nat.le_refl _) (new _)
  have x5 := (Ext.refl co.ste).other (o := .lst []) hfree hSad hSz trivial
  obtain ⟨Zs, Hs, w1, sl⟩ := co.slp
  refine drainS (A := A.in1) (Γ := Γ) (X := X) (Y := Y) (pins := pins) (σ := σ) (Z0 := Z) (ad0 := ad) (H0 := H) (ad := ad) (μ := μ) (g := g) (go := go) ft isg hr.hd (by have := hr.dp; show A.depth < _; omega) hfree ys [] [] _ (upd H s.heap.objs.size (.lst [])) Z priv (.fresh c)
    ⟨I5, co.ste.other trivial hSad hSz, co.gn, co.pn, co.mem, co.hi, Zs, Hs, w1.trans x5.wk, sl⟩ x5 upd_same hSad hSz (reps_nil.mpr rfl) hlen fun s' H' Z' vs' g1 g2 g3 g4 g5 g6 => ?_
  exact ⟨rfl, hQ _ s' H' Z' vs' (Nat.le_refl _) g1 g2 g3 g4 hfree hSad g5 g6⟩
end
section
variable {Γ : Tx} {X : L2.Cx} {e : Expr} {es : List Expr} {FL : Sy.Env → Sto → R (List W)} {pos p p2 cpos : Pos} {k : Nat} {fa : Addr} {fd : FuncData} {ps : List Str} {gen : List Sy.T → Option (List Sy.T)} {x : Str}
theorem se_lstg {kp : Bool} {ρ : Sy.Env} (hx : X.xe = fun _ _ => False) (G : GFnS Γ X.prog X.w X.K X.mg X.base k fa fd ps gen) (hr : Room (k + 3) X.A) (hg : Gl X x) (hm : X.mg x = some (.ref fa)) (hk : PySem.W.keepIn X.K (.ref fa) = true) (hb : Binds X.K fd ps [])
    (hl : ∀ ρ, SA Γ X ρ (e :: es) (FL ρ)) (hp : plainsX (e :: es) = true) (hdb : (x == ("__debug__" : Str)) = false) (hgl : Gl X "list") (hml : X.mg "list" = none) :
    SE Γ X ρ (.Call (.Name "list" p2) [.Call (.Name x p) (e :: es) [] cpos] [] pos) fun μ => (FL ρ μ).bind fun ws μ => (toTs ws μ).bind fun ts μ => match gen ts with
      | some ys => if ys.length < sizeLine then fin kp (.c (.lst ys)) μ else .bad
      | none => .bad := fun μ => by
  refine ⟨fun pins s σ H Q I ⟨Z, ad, st, l, h⟩ => ?_⟩
  cases h1 : FL ρ μ with
  | exc _ _ => simp only [h1, R.bind, Out] at h
  | bad => simp only [h1, R.bind, Out] at h
  | ok ws μ0 =>
    cases h2 : toTs ws μ0 with
    | exc _ _ => simp only [h1, h2, R.bind, Out] at h
    | bad => simp only [h1, h2, R.bind, Out] at h
    | ok ts μ1 =>
      cases h3 : gen ts with
      | none => simp only [h1, h2, h3, R.bind, Out] at h
      | some ys =>
        have h : Out Γ (rpW Γ) Z ad H ((FL ρ μ).bind fun ws μ => (toTs ws μ).bind fun ts μ => match gen ts with
          | some ys => if ys.length < sizeLine then fin kp (.c (.lst ys)) μ else .bad
          | none => .bad) Q := h
        rw [h1] at h
        have h : Out Γ (rpW Γ) Z ad H ((toTs ws μ0).bind fun ts μ => match gen ts with
          | some ys => if ys.length < sizeLine then fin kp (.c (.lst ys)) μ else .bad
          | none => .bad) Q := h
        rw [h2] at h
        have h : Out Γ (rpW Γ) Z ad H (match gen ts with
          | some ys => if ys.length < sizeLine then fin kp (.c (.lst ys)) μ1 else .bad
          | none => .bad) Q := h
        rw [h3] at h
        have h : Out Γ (rpW Γ) Z ad H (if ys.length < sizeLine then fin kp (.c (.lst ys)) μ1 else .bad) Q := h
        obtain ⟨hlen, h⟩ := out_if h
        have hpl : plainX (.Call (.Name x p) (e :: es) [] cpos) = true := rfl
        refine wpAny_Call_Name_kw (ld_blt I hgl hml (by with_unfolding_all rfl) ?_ (by decide) (by decide))
        refine PyProof.Rows.callWith_type1 ?_ (star_of hpl) rfl
        rw [star_of hpl]
        show wpAny _ _ (spliced ((false, eval (.Call (.Name x p) (e :: es) [] cpos) X.env) :: backTo pos (starEach [] X.env))) _ _ s
        refine Calls.spliced_cons (thn (run_gcall G hr.depth hg hm hk hb hl hp hdb hx I st l h1 h2 h3) fun u s1 hM => ?_)
        refine Calls.spliced_nil ?_
        obtain ⟨H1, Z1, ad1, a, g, go, c, priv, rfl, isg, st1, x1, I1, gn1, mk⟩ := hM
        obtain ⟨Y, ft, co1⟩ := mk X.A.in1.in1.in1 hr.in1.in1.in1 I1.ok.frames
        refine call_list_gen hr ft isg co1 hlen fun S s' H' Z' vs' g0 g1 g2 g3 g4 g5 g6 g7 g8 => ?_
        refine ⟨.ref S, H', g1, rfl, ?_⟩
        have hnone : H S = none := by
          cases q : H S with
          | none => rfl
          | some o =>
            by_cases ha : S ∈ ad
            · exact absurd g5 (x1.dm S ha)
            · by_cases hz : Z S
              · exact absurd g5 (st1.zd S (x1.zs S hz))
              · rw [x1.fr S o q ha hz] at g5; cases g5
        exact fin_old (c := .lst ys) g2 (x1.trans g3) hnone g4 ⟨vs', rfl, g8⟩ g6 g7 (Out.giv h)
end
end Sg
end

section
set_option Elab.async false
set_option linter.all false
set_option maxRecDepth 100000
/-! SyU: comprehensions as expressions and as what is assigned. -/
namespace Sy
open PySem L2 PyProof.Rows
/-- the context of a comprehension's block -/
def IsBlk (X : Cx) (scope : Scope) (Y : Cx) : Prop := ∃ (s : Shared) (H : Hp) (C : Addr) (cl : List (Str × Addr)) (fp : List Addr), Y = X.blk s H scope (compEnvC scope cl C X.env) fp
section
variable {Γ : Tx} {X : Cx} {α β γ δ : Type} {rp : Rp α β} {rp' : Rp γ δ} {ρ : Env} {σ : L2.St} {sl sl1 dr dr1 : List Nat}
variable {elt tg iter tg1 iter1 kx vx e : Expr} {ifs ifs1 : List Expr} {scope : Scope} {own : List (Str × Nat)} {pos : Pos} {FG FG1 : W → Env → Sto → R Env} {FT : Env → Sto → R Bool} {FE FV : Env → Sto → R W} {FI : Sto → R (List T)} {FI1 : Env → Sto → R (List T)} {k : Bool}
theorem AS.imp {t t' : TE} (h : AS X e t) (q : ∀ σ H Q, t' σ H Q → t σ H Q) : AS X e t' := fun i y py pos h1 h2 h3 => PS.imp (h i y py pos h1 h2 h3) fun D σ H w => q σ H _ w
theorem as_lc {wi : TI} {g : TG} {tt : TT} {te : TE} (hc : X.calm = true) (hN : X.N.Nodup) (hi : PI X tg iter wi) (ok : BlkOk X.N X.env.scope scope own)
    (hg : ∀ (s : Shared) (H : Hp) (C : Addr) (cl : List (Str × Addr)) (fp : List Addr), PG (X.blk s H scope (compEnvC scope cl C X.env) fp) tg g) (ht : ∀ (s : Shared) (H : Hp) (C : Addr) (cl : List (Str × Addr)) (fp : List Addr), PTs (X.blk s H scope (compEnvC scope cl C X.env) fp) ifs tt)
    (he : ∀ (s : Shared) (H : Hp) (C : Addr) (cl : List (Str × Addr)) (fp : List Addr), PE (X.blk s H scope (compEnvC scope cl C X.env) fp) elt te) (hs : ∀ x, foldedSetIterable iter X.env x = pure x) :
    AS X (.ListComp elt [⟨tg, iter, ifs, 0⟩] scope pos) (tLc wi g tt te (own.map (·.2))) := fun i y py pos h1 h2 h3 => ps_setLc hc hN h1 h2 h3 hi ok hg ht he hs
/-- an expression that may also be assigned to a local name by the machine's own store -/
def SE2 (Γ : Tx) (X : Cx) (ρ : Env) (e : Expr) (F : Sto → R W) : Prop := SE Γ X ρ e F ∧ SAS Γ X ρ e F
theorem se_lc (hc : X.calm = true) (hN : X.N.Nodup) (hi : SI Γ X ρ tg iter FI) (ok : BlkOk X.N X.env.scope scope own) (hsl : ∀ i ∈ sl, i ∈ own.map (·.2)) (hg : ∀ Y, IsBlk X scope Y → SGt Γ Y sl tg FG) (ht : ∀ Y, IsBlk X scope Y → ∀ ρ, STs Γ Y ρ ifs (FT ρ))
    (he : ∀ Y, IsBlk X scope Y → ∀ ρ, SE Γ Y ρ elt (FE ρ)) (hp : plainX iter = true) :
    SE2 Γ X ρ (.ListComp elt [⟨tg, iter, ifs, 0⟩] scope pos) fun μ => (FI μ).bind fun xs μ => (gath (cbody (own.map (·.2)) FG FT (frE FE) ρ) xs μ).bind fun vs μ => if vs.length ≤ sizeLine then fin k (.c (.lst vs)) μ else .bad := by
  have g1 := fun s H C cl fp => pg_ex (hg _ ⟨s, H, C, cl, fp, rfl⟩)
  have g2 := fun s H C cl fp => pts_ex (ht _ ⟨s, H, C, cl, fp, rfl⟩)
  have g3 := fun s H C cl fp => pe_ex (he _ ⟨s, H, C, cl, fp, rfl⟩)
  exact ⟨fun μ => PE.imp (pe_lc hc hN (hi μ) ok g1 g2 g3 (folded_of hp)) fun σ H Q h => lc_imp hsl h,
    fun μ => AS.imp (as_lc hc hN (hi μ) ok g1 g2 g3 (folded_of hp)) fun σ H Q h => lc_imp hsl h⟩
theorem se_dc (hc : X.calm = true) (hN : X.N.Nodup) (hi : SI Γ X ρ tg iter FI) (ok : BlkOk X.N X.env.scope scope own) (hsl : ∀ i ∈ sl, i ∈ own.map (·.2)) (hg : ∀ Y, IsBlk X scope Y → SGt Γ Y sl tg FG) (ht : ∀ Y, IsBlk X scope Y → ∀ ρ, STs Γ Y ρ ifs (FT ρ))
    (hk : ∀ Y, IsBlk X scope Y → ∀ ρ, SE Γ Y ρ kx (FE ρ)) (he : ∀ Y, IsBlk X scope Y → ∀ ρ, SE Γ Y ρ vx (FV ρ)) (hp : plainX iter = true) :
    SE Γ X ρ (.DictComp kx vx [⟨tg, iter, ifs, 0⟩] scope pos) fun μ => (FI μ).bind fun xs μ => (gath (cbody (own.map (·.2)) FG FT (frP FE FV) ρ) xs μ).bind fun ps μ => KD k [] ps μ := by
  have g1 := fun s H C cl fp => pg_ex (hg _ ⟨s, H, C, cl, fp, rfl⟩)
  have g2 := fun s H C cl fp => pts_ex (ht _ ⟨s, H, C, cl, fp, rfl⟩)
  have g3 := fun s H C cl fp => pe_ex (hk _ ⟨s, H, C, cl, fp, rfl⟩)
  have g4 := fun s H C cl fp => pe_ex (he _ ⟨s, H, C, cl, fp, rfl⟩)
  exact fun μ => PE.imp (pe_dc hc hN (hi μ) ok g1 g2 g3 g4 (folded_of hp)) fun σ H Q h => dc_imp hsl h
theorem se_dc2 (hc : X.calm = true) (hN : X.N.Nodup) (hi : SI Γ X ρ tg iter FI) (ok : BlkOk X.N X.env.scope scope own) (hsl : ∀ i ∈ sl, i ∈ own.map (·.2)) (hsl1 : ∀ i ∈ dr1, i ∈ own.map (·.2)) (hs1 : ∀ i ∈ sl1, i ∈ dr1) (hg : ∀ Y, IsBlk X scope Y → SGt Γ Y sl tg FG)
    (hi1 : ∀ Y, IsBlk X scope Y → ∀ ρ, SI Γ Y ρ tg1 iter1 (FI1 ρ)) (hg1 : ∀ Y, IsBlk X scope Y → SGt Γ Y sl1 tg1 FG1) (ht : ∀ Y, IsBlk X scope Y → ∀ ρ, STs Γ Y ρ ifs (FT ρ))
    (hk : ∀ Y, IsBlk X scope Y → ∀ ρ, SE Γ Y ρ kx (FE ρ)) (he : ∀ Y, IsBlk X scope Y → ∀ ρ, SE Γ Y ρ vx (FV ρ)) (hp : plainX iter = true) (hp1 : plainX iter1 = true) :
    SE Γ X ρ (.DictComp kx vx [⟨tg, iter, [], 0⟩, ⟨tg1, iter1, ifs, 0⟩] scope pos) fun μ => (FI μ).bind fun xs μ => (gath2 (obody (own.map (·.2)) dr1 FG FG1 FI1 FT (frP FE FV) ρ) xs μ).bind fun ps μ => KD k [] ps μ := by
  have g1 := fun s H C cl fp => pg_ex (hg _ ⟨s, H, C, cl, fp, rfl⟩)
  have g2 := fun s H C cl fp => pts_ex (ht _ ⟨s, H, C, cl, fp, rfl⟩)
  have g3 := fun s H C cl fp => pe_ex (hk _ ⟨s, H, C, cl, fp, rfl⟩)
  have g4 := fun s H C cl fp => pe_ex (he _ ⟨s, H, C, cl, fp, rfl⟩)
  have g5 := fun s H C cl fp => pi_ex (hi1 _ ⟨s, H, C, cl, fp, rfl⟩)
  have g6 := fun s H C cl fp => pg_ex (hg1 _ ⟨s, H, C, cl, fp, rfl⟩)
  exact fun μ => PE.imp (pe_dc2 hc hN (hi μ) ok hsl1 g1 (fun _ _ _ _ _ => pts_nil) g5 g6 g2 g3 g4 (folded_of hp) fun env => folded_of hp1) fun σ H Q h => dc2_imp hsl hs1 h
/-! ### what a store of a comprehension is -/
def cscope : Expr → Option Scope
  | .ListComp _ _ s _ => some s
  | .SetComp _ _ s _ => some s
  | .DictComp _ _ _ s _ => some s
  | _ => none
def swB (e : Expr) (y : Str) (py : Pos) (sc : Scope) : Bool := match cscope e with
  | some s => decide (sc.names.lookup y = some .local) && (py.line == e.pos.line) && !(s.names.any fun (n, k) => n == y && (k == .local || k == .cell))
  | none => false
theorem swB_ok {y : Str} {py : Pos} {l : Nat} {env : PySem.Env} (hk : env.scope.kind = .function) : swapsWith e (some (.Name y py)) l env = pure (swB e y py env.scope) := by
  have hb : env.blockKind = .function := by unfold PySem.Env.blockKind; rw [hk]; rfl
  have key : (env.kindOf y == some NameKind.local) = decide (env.scope.names.lookup y = some .local) := by
    show (env.scope.names.lookup y == some NameKind.local) = _
    cases env.scope.names.lookup y with
    | none => rfl
    | some q => cases q <;> rfl
  have bk : (env.blockKind == ScopeKind.function) = true := by rw [hb]; rfl
  cases e <;> first | rfl | (unfold swapsWith swB cscope; simp only [bk, key, Expr.pos, Bool.true_and, pure_bind])
def swS (ts vs : List Expr) (sc : Scope) : Option (Option (List Str)) :=
  if (!(ts.length == 2 || ts.length == 3) || vs.length != ts.length) = true then some none
  else if (vs.any fun | .Starred .. => true | _ => false) = true then some none
  else
    let line := (ts.head?.map (·.pos.line)).getD 0
    let names := ts.filterMap fun
      | .Name id pos => if (sc.names.lookup id == some .local && pos.line == line) = true then some id else none
      | _ => none
    if (names.length != ts.length || names.eraseDups.length != names.length) = true then some none
    else if vs.all (foldedForSure 8) = true then some none
    else if vs.all (constantsAlone 8) = true then none
    else some (some names)
theorem swS_ok {ts vs : List Expr} {k k2 : Nat} {p p2 : Pos} {env : PySem.Env} {r : Option (List Str)} (hk : env.scope.kind = .function) (h : swS ts vs env.scope = some r) : swappedStores [.Tuple ts k p] (.Tuple vs k2 p2) env = pure r := by
  have hb : env.blockKind = .function := by unfold PySem.Env.blockKind; rw [hk]; rfl
  have bk : (env.blockKind != ScopeKind.function) = false := by rw [hb]; rfl
  have key : ∀ id, env.kindOf id = env.scope.names.lookup id := fun _ => rfl
  unfold swS at h
  unfold swappedStores
  simp only [bk, key, Bool.or_false, pure_bind]
  split at h
  · rename_i h1
    cases h
    exact if_pos h1
  · rename_i h1
    refine (if_neg h1).trans ?_
    split at h
    · rename_i h2
      cases h
      exact if_pos h2
    · rename_i h2
      refine (if_neg h2).trans ?_
      dsimp only at h
      split at h
      · rename_i h3
        cases h
        exact if_pos h3
      · rename_i h3
        refine (if_neg h3).trans ?_
        split at h
        · rename_i h4
          cases h
          exact if_pos h4
        · rename_i h4
          refine (if_neg h4).trans ?_
          split at h
          · cases h
          · rename_i h5
            cases h
            exact if_neg h5
end
end Sy
end

section
set_option Elab.async false
set_option linter.all false
set_option maxRecDepth 100000
/-! SyV: the look that matches the compact syntax with the text; expressions. -/
namespace Sy
open PySem L2 PyProof.Rows
/-- a def of the table: its body, its names, how it is bound, its text -/
structure FnT where
  fd : FD
  N : List Str
  glob : Option Str
  meth : Option (Nat × Str)
  ini : Option Nat
  sc : Scope
  body : List Stmt
  star : Option Str := none
/-- a generator's def of the table -/
structure GnT where
  gd : GD
  N : List Str
  glob : Str
  sc : Scope
  body : List Stmt
structure Tab where
  fns : List FnT
  glb : List (Str × T)
  cls : List Str
  at_ : List (List Str)
  free : List Str
  gcd : List Str
  gens : List GnT := []
structure Sk where
  N : List Str
  sc : Scope
  fn : Str → Bool
def Tab.atL (T : Tab) (c : Nat) : List Str := (T.at_[c]?).getD []
def alOkT (T : Tab) (f : Str) (al : List (Nat × Nat)) : Bool := al.all fun p => decide (p.1 < T.at_.length) && decide ((T.atL p.1)[p.2]? = some f)
def visB (sc : Scope) (x : Str) : Bool := match sc.names.lookup x with
  | some .local => true
  | some .cell => true
  | some .free => true
  | _ => false
def locB (sc : Scope) (x : Str) : Bool := match sc.names.lookup x with
  | some .local => true
  | some .cell => true
  | _ => false
def glB (sc : Scope) (x : Str) : Bool := decide (sc.names.lookup x = some .globalImplicit)
def okN (x : Str) : Bool := !(x == ("__debug__" : Str)) && !(x == ("__classdict__" : Str)) && !(x == ("__name__" : Str))
def bfS : Bf → Str
  | .len => "len"
  | .int_ => "int"
  | .abs_ => "abs"
  | .str_ => "str"
  | .list_ => "list"
  | .tuple_ => "tuple"
  | .sorted_ => "sorted"
  | .all_ => "all"
  | .any_ => "any"
  | .max2 => "max"
  | .min2 => "min"
  | .gcd => "gcd"
def bltB (T : Tab) (f : Bf) (x : Str) : Bool := match f with
  | .gcd => T.gcd.contains x
  | f => (x == bfS f) && T.free.contains x
def clS : Cl → Str
  | .int => "int"
  | .bool => "bool"
  | .str => "str"
  | .list => "list"
  | .tuple => "tuple"
  | .dict => "dict"
  | .own _ => ""
def clB (T : Tab) (c : Cl) (x : Str) : Bool := match c with
  | .own c => decide (T.cls[c]? = some x) && decide (c < T.at_.length)
  | c => (x == clS c) && T.free.contains x
def clE (T : Tab) (k : Sk) (c : Cl) : Expr → Bool
  | .Name x _ => clB T c x && glB k.sc x && okN x
  | _ => false
def blkSk (k : Sk) (scope : Scope) : Sk := ⟨k.N, relS scope k.sc, fun x => scope.names.lookup x == some .cell⟩
def ownOf (k : Sk) (dr : List Nat) : List (Str × Nat) := dr.map fun i => ((k.N[i]?).getD "", i)
def subN (a b : List Nat) : Bool := a.all fun i => b.contains i
def zipAll {α β : Type} (p : α → β → Bool) : List α → List β → Bool
  | [], [] => true
  | a :: as, b :: bs => p a b && zipAll p as bs
  | _, _ => false
section
variable (T : Tab)
mutual
def chkE : Nat → Sk → Ex → Expr → Bool
  | 0, _, _, _ => false
  | n + 1, k, x, e => match x with
    | .never => true
    | .var i => match e with
      | .Name y _ => decide (k.N[i]? = some y) && visB k.sc y && okN y
      | _ => false
    | .cst t => match e with
      | .Constant c _ _ => decide (cstV t = some c)
      | _ => false
    | .glb j => match e with
      | .Name y _ => (match T.glb[j]? with | some p => decide (p.1 = y) | none => false) && glB k.sc y && okN y
      | _ => false
    | .op2 o _ a b => match e with
      | .BinOp l op r _ => decide (op = bop o) && chkE n k a l && chkE n k b r
      | _ => false
    | .neg a => match e with
      | .UnaryOp .USub l _ => chkE n k a l
      | _ => false
    | .nt a => match e with
      | .UnaryOp .Not l _ => chkE n k a l
      | _ => false
    | .and_ as => match e with
      | .BoolOp .And es _ => !as.isEmpty && zipAll (chkE n k) as es
      | _ => false
    | .or_ as => match e with
      | .BoolOp .Or es _ => !as.isEmpty && zipAll (chkE n k) as es
      | _ => false
    | .ife c a b => match e with
      | .IfExp c' l r _ => chkT n k c c' && chkE n k a l && chkE n k b r
      | _ => false
    | .cmp o a b => match e with
      | .Compare l [op] [r] _ => decide (op = cop o) && plainX r && chkE n k a l && chkE n k b r
      | _ => false
    | .chn o p a b c => match e with
      | .Compare l [op, op'] [m, r] _ => decide (op = cop o) && decide (op' = cop p) && plainX r && chkE n k a l && chkE n k b m && chkE n k c r
      | _ => false
    | .tup es => match e with
      | .Tuple xs _ _ => zipAll (chkE n k) es xs && plainsX xs
      | _ => false
    | .lst _ es => match e with
      | .List xs _ => zipAll (chkE n k) es xs && plainsX xs
      | _ => false
    | .dct _ => match e with
      | .Dict [] [] _ => true
      | _ => false
    | .idx a i => match e with
      | .Subscript l r _ => plainX r && chkE n k a l && chkE n k i r
      | _ => false
    | .slc _ a lo hi => match e with
      | .Subscript l (.Slice lo' hi' none _) _ => chkE n k a l && chkP n k lo lo' && chkP n k hi hi'
      | _ => false
    | .att al a => match e with
      | .Attribute l f _ => alOkT T f al && baseX l && chkE n k a l
      | _ => false
    | .isi cs a => match e with
      | .Call (.Name f _) [l, .Tuple ces _ _] [] _ => (f == ("isinstance" : Str)) && glB k.sc f && T.free.contains f && !cs.isEmpty && decide (cs.length ≤ 100) && zipAll (clE T k) cs ces && plainsX ces && plainX l && chkE n k a l
      | .Call (.Name f _) [l, ce] [] _ => (f == ("isinstance" : Str)) && glB k.sc f && T.free.contains f && (match cs with | [c] => clE T k c ce | _ => false) && plainX l && chkE n k a l
      | _ => false
    | .blt _ f es => match e with
      | .Call (.Name x _) args [] _ => !es.isEmpty && bltB T f x && glB k.sc x && okN x && zipAll (chkE n k) es args && plainsX args
      | _ => false
    | .bmt _ m es => match e with
      | .Call (.Attribute o x apos) args [] cpos => decide (x = bmS m) && (apos.endLine == cpos.line) && baseX o && plainX o && decide (args.length < 29) && !args.isEmpty && zipAll (chkE n k) es (o :: args) && plainsX args
      | _ => false
    | .call _ f es => match e with
      | .Call (.Name x _) args [] _ => (match T.fns[f]? with | some d => (d.star.isNone && decide (d.glob = some x)) | none => false) && glB k.sc x && okN x && zipAll (chkE n k) es args && plainsX args
      | _ => false
    | .new _ c f es => match e with
      | .Call (.Name x _) args [] _ => (match T.fns[f]? with | some d => (d.star.isNone && decide (d.ini = some c)) | none => false) && decide (T.cls[c]? = some x) && decide (c < T.at_.length) && glB k.sc x && okN x && !es.isEmpty && zipAll (chkE n k) es args && plainsX args
      | _ => false
    | .mth _ al o es => match e with
      | .Call (.Attribute l m apos) args [] cpos => (al.all fun p => (match T.fns[p.2]? with | some d => (d.star.isNone && decide (d.meth = some (p.1, m))) | none => false) && decide (p.1 < T.at_.length) && !(T.atL p.1).contains m) && (apos.endLine == cpos.line) && baseX l && decide (args.length < 30) && chkE n k o l && zipAll (chkE n k) es args && plainsX args
      | _ => false
    | .comp _ dr it tg ifs x => match e with
      | .ListComp elt [⟨t, i, ifs', a⟩] scope _ => decide (a = 0) && blkC k.N k.sc scope (ownOf k dr) && subN (tgS tg) dr && plainX i && chkI n k it t i && chkG n (blkSk k scope) tg t && decide (ifs.length ≤ 1) && zipAll (chkT n (blkSk k scope)) ifs ifs' && chkE n (blkSk k scope) x elt
      | _ => false
    | .dcomp _ dr it tg ifs x v => match e with
      | .DictComp kx vx [⟨t, i, ifs', a⟩] scope _ => decide (a = 0) && blkC k.N k.sc scope (ownOf k dr) && subN (tgS tg) dr && plainX i && chkI n k it t i && chkG n (blkSk k scope) tg t && decide (ifs.length ≤ 1) && zipAll (chkT n (blkSk k scope)) ifs ifs' && chkE n (blkSk k scope) x kx && chkE n (blkSk k scope) v vx
      | _ => false
    | .dcomp2 _ dr it tg it2 tg2 ifs x v => match e with
      | .DictComp kx vx [⟨t, i, [], a⟩, ⟨t2, i2, ifs', a2⟩] scope _ => decide (a = 0) && decide (a2 = 0) && blkC k.N k.sc scope (ownOf k dr) && subN (tgS tg) dr && subN (tgS tg2) dr && plainX i && plainX i2 && chkI n k it t i && chkG n (blkSk k scope) tg t && chkI n (blkSk k scope) it2 t2 i2 && chkG n (blkSk k scope) tg2 t2 && decide (ifs.length ≤ 1) && zipAll (chkT n (blkSk k scope)) ifs ifs' && chkE n (blkSk k scope) x kx && chkE n (blkSk k scope) v vx
      | _ => false
    | .fst es => match e with
      | .JoinedStr xs _ => decide (2 ≤ es.length) && zipAll (chkE n k) es xs
      | _ => false
    | .fm f x => match e with
      | .FormattedValue l (-1) none _ => (match f with | .no => true | _ => false) && chkE n k x l
      | .FormattedValue l (-1) (some (.JoinedStr [.Constant (.str sp) _ _] _)) _ => fsOk f sp && chkE n k x l
      | _ => false
    | .newV _ c f st es kv => match e with
      | .Call (.Name x _) args [⟨some kn, ke, _⟩] _ => (match T.fns[f]? with | some d => decide (d.star = some kn) && decide (d.ini = some c) | none => false) && decide (T.cls[c]? = some x) && decide (c < T.at_.length) && glB k.sc x && okN x && chkE n k kv ke && (match st with
        | false => zipAll (chkE n k) es args && plainsX args
        | true => match es, args with
          | [y], [.Starred a _] => chkE n k y a
          | _, _ => false)
      | _ => false
    | .lenO al x => match e with
      | .Call (.Name f _) [l] [] _ => (f == ("len" : Str)) && glB k.sc f && T.free.contains f && (al.all fun p => (match T.fns[p.2]? with | some d => (d.star.isNone && decide (d.meth = some (p.1, ("__len__" : Str)))) | none => false)) && plainX l && chkE n k x l
      | _ => false
    | .comp2 _ _ _ _ _ _ _ _ => false
    | .lstg _ f es => match e with
      | .Call (.Name l _) [.Call (.Name x _) args [] _] [] _ => (l == ("list" : Str)) && glB k.sc l && T.free.contains l && (match T.gens[f]? with | some d => decide (d.glob = x) | none => false) && glB k.sc x && okN x && !es.isEmpty && zipAll (chkE n k) es args && plainsX args
      | _ => false
def chkP : Nat → Sk → Ex → Option Expr → Bool
  | 0, _, _, _ => false
  | n + 1, k, x, e => match x with
    | .cst .non => match e with
      | none => true
      | some _ => false
    | x => match e with
      | none => false
      | some e => chkE n k x e
def chkT : Nat → Sk → Ex → Expr → Bool
  | 0, _, _, _ => false
  | n + 1, k, x, e => match x with
    | .nt a => match e with
      | .UnaryOp .Not l _ => chkT n k a l
      | _ => false
    | .and_ as => match e with
      | .BoolOp .And es _ => !as.isEmpty && zipAll (chkT n k) as es
      | _ => false
    | .or_ as => match e with
      | .BoolOp .Or es _ => !as.isEmpty && zipAll (chkT n k) as es
      | _ => false
    | .cmp o a b => match e with
      | .Compare l [op] [r] _ => decide (op = cop o) && plainX r && chkE n k a l && chkE n k b r
      | _ => false
    | .chn o p a b c => match e with
      | .Compare l [op, op'] [m, r] _ => decide (op = cop o) && decide (op' = cop p) && plainX r && chkE n k a l && chkE n k b m && chkE n k c r
      | _ => false
    | x => testX e && chkE n k x e
def chkI : Nat → Sk → It → Expr → Expr → Bool
  | 0, _, _, _, _ => false
  | n + 1, k, it, tg, e => match it with
    | .seq x => chkE n k x e
    | .rng1 x => match e with
      | .Call (.Name f _) [l] [] _ => (f == ("range" : Str)) && T.free.contains f && glB k.sc f && plainX l && chkE n k x l
      | _ => false
    | .rng2 x y => match e with
      | .Call (.Name f _) [l, r] [] _ => (f == ("range" : Str)) && T.free.contains f && glB k.sc f && plainX l && plainX r && chkE n k x l && chkE n k y r
      | _ => false
    | .zip x y => match tg, e with
      | .Tuple _ _ _, .Call (.Name f _) [l, r] [] _ => (f == ("zip" : Str)) && T.free.contains f && glB k.sc f && plainX l && plainX r && chkE n k x l && chkE n k y r
      | _, _ => false
    | .items x => match tg, e with
      | .Tuple _ _ _, .Call (.Attribute l m apos) [] [] cpos => (m == ("items" : Str)) && (apos.endLine == cpos.line) && baseX l && chkE n k x l
      | _, _ => false
    | .enum x => match tg, e with
      | .Tuple _ _ _, .Call (.Name f _) [l] [] _ => (f == ("enumerate" : Str)) && T.free.contains f && glB k.sc f && plainX l && chkE n k x l
      | _, _ => false
def chkG : Nat → Sk → Tg → Expr → Bool
  | 0, _, _, _ => false
  | n + 1, k, tg, e => match tg with
    | .nm i => match e with
      | .Name y _ => decide (k.N[i]? = some y) && locB k.sc y && (k.fn y || decide (k.sc.names.lookup y = some .local))
      | _ => false
    | .tp ts => match e with
      | .Tuple xs _ _ => zipAll (chkG n k) ts xs && nosX xs
      | _ => false
    | .sb a i => match e with
      | .Subscript l r _ => plainX r && chkE n k a l && chkE n k i r
      | _ => false
end
end
end Sy
end

section
set_option Elab.async false
set_option linter.all false
set_option maxRecDepth 100000
/-! SyW: what the look finds is what the evaluator does: expressions. -/
namespace Sy
open PySem L2 PyProof.Rows
/-- what is known of the module and of the callees, n calls deep -/
structure Okx (Γ : Tx) (T : Tab) (C : Ctx) (n : Nat) (k : Sk) (X : Cx) : Prop where
  hK : X.K = Γ.K
  hc : X.calm = true
  hN : X.N.Nodup
  eN : X.N = k.N
  eS : X.env.scope = k.sc
  eF : ∀ x, k.fn x = true → X.fn x = true
  eK : X.env.scope.kind = .function
  hu : X.A.units + 64 < cLine
  hr : Room (2 * n + 1) X.A
  nox : X.xe = fun _ _ => False
  tn : Γ.n = T.at_.length
  ta : ∀ c, Γ.at_ c = T.atL c
  B : Fct Γ
  A : FctA Γ
  free : ∀ x, T.free.contains x = true → X.mg x = none
  gcd : ∀ x, T.gcd.contains x = true → X.mg x = some (.builtin "math.gcd")
  glb : ∀ (j : Nat) (x : Str) (t : Sy.T), T.glb[j]? = some (x, t) → C.glb[j]? = some t ∧ ∃ u v, X.mg x = some u ∧ RelV v u ∧ Rep Γ (fun _ => False) (fun _ => none) t v
  cls : ∀ (c : Nat) (x : Str), T.cls[c]? = some x → X.mg x = some (.ref (Γ.C c))
  fnv : ∀ (j : Nat) (d : FnT) (kn : Str), T.fns[j]? = some d → d.star = some kn → (∀ as, C.call j as ≠ .bad → as.length = d.fd.np) ∧ ∃ fa : Addr, SyV.FnV X.prog X.w X.K X.mg X.base (2 * n) fa kn (spC Γ (C.call j) d.fd.np) ∧ ∀ c, d.ini = some c → Mk X.K (Γ.C c) fa
  fno : ∀ (j : Nat) (d : FnT), T.fns[j]? = some d → d.star.isNone = true → (∀ as, C.call j as ≠ .bad → as.length = d.fd.np) ∧ ∃ (fa : Addr) (fdd : FuncData) (ps : List Str), FnOk X.prog X.w X.K X.mg X.base C8.CX0 (2 * n) fa fdd ps (spC Γ (C.call j) d.fd.np) ∧ Binds X.K fdd ps [] ∧
    (∀ x, d.glob = some x → X.mg x = some (.ref fa) ∧ PySem.W.keepIn X.K (.ref fa) = true) ∧ (∀ c m, d.meth = some (c, m) → Meth X.K (Γ.C c) m fa) ∧ (∀ c, d.ini = some c → Mk X.K (Γ.C c) fa)
  gno : ∀ (j : Nat) (d : GnT), T.gens[j]? = some d → (∀ ts, C.gen j ts = none) ∨ ∃ (kk : Nat) (fa : Addr) (fdd : FuncData) (ps : List Str), kk + 3 ≤ 2 * n + 1 ∧ Sg.GFnS Γ X.prog X.w X.K X.mg X.base kk fa fdd ps (C.gen j) ∧ Binds X.K fdd ps [] ∧ X.mg d.glob = some (.ref fa) ∧ PySem.W.keepIn X.K (.ref fa) = true
theorem Okx.hx {Γ : Tx} {T : Tab} {C : Ctx} {n : Nat} {k : Sk} {X : Cx} (ok : Okx Γ T C n k X) : PassesOwn (model X.prog X.w) X.A X.env X.xe := by
  rw [ok.nox]; exact PassesOwn.never
section
variable {Γ : Tx} {T : Tab} {C : Ctx} {n m : Nat} {k : Sk} {X Y : Cx} {scope : Scope} {ρ : Env}
theorem blkOf (ok : Okx Γ T C n k X) (own : List (Str × Nat)) (hb : BlkOk k.N k.sc scope own) (h : IsBlk X scope Y) : Okx Γ T C n (blkSk k scope) Y := by
  obtain ⟨s, H, Cc, cl, fp, rfl⟩ := h
  exact ⟨ok.hK, ok.hc, ok.hN, ok.eN, by
      show relS scope X.env.scope = relS scope k.sc
      rw [ok.eS], fun x h => h, hb.kind, ok.hu, ok.hr, rfl, ok.tn, ok.ta, ok.B, ok.A, ok.free, ok.gcd, ok.glb, ok.cls, ok.fnv, ok.fno, ok.gno⟩
theorem glOf (ok : Okx Γ T C n k X) {x : Str} (h : glB k.sc x = true) : Gl X x := by
  show X.env.scope.names.lookup x = _
  rw [ok.eS]
  exact of_decide_eq_true h
theorem visOf (ok : Okx Γ T C n k X) {x : Str} (h : visB k.sc x = true) : Vis X.env.scope x := by
  rw [ok.eS]
  unfold visB at h
  split at h <;> first | exact .inl (by assumption) | exact .inr (.inl (by assumption)) | exact .inr (.inr (by assumption)) | cases h
theorem locOf (ok : Okx Γ T C n k X) {x : Str} (h : locB k.sc x = true) : Loc X.env.scope x := by
  rw [ok.eS]
  unfold locB at h
  split at h <;> first | exact .inl (by assumption) | exact .inr (by assumption) | cases h
theorem okN_of {x : Str} (h : okN x = true) : (x == ("__debug__" : Str)) = false ∧ (x == ("__classdict__" : Str)) = false ∧ x ≠ "__name__" := by
  unfold okN at h
  simp only [Bool.and_eq_true, Bool.not_eq_true'] at h
  exact ⟨h.1.1, h.1.2, beq_eq_false_iff_ne.mp h.2⟩
theorem alOf (ok : Okx Γ T C n k X) {f : Str} {al : List (Nat × Nat)} (h : alOkT T f al = true) : alOk Γ f al = true := by
  unfold alOkT at h
  unfold alOk
  rw [List.all_eq_true] at h ⊢
  intro p hp
  have := h p hp
  rw [ok.tn, ok.ta]
  exact this
theorem boot_bf (f : Bf) (h : f ≠ .gcd) : bootBuiltins (bfS f) = some (bfV f) := by
  cases f <;> first | exact absurd rfl h | with_unfolding_all rfl
theorem bltB_ne {f : Bf} {x : Str} (hf : f ≠ .gcd) : bltB T f x = ((x == bfS f) && T.free.contains x) := by
  cases f <;> first | rfl | exact absurd rfl hf
theorem bfV_kind (f : Bf) : (∃ id, bfV f = .builtin id) ∨ ∃ t, bfV f = .type t := by
  cases f <;> first | exact .inl ⟨_, rfl⟩ | exact .inr ⟨_, rfl⟩
theorem bltOf (ok : Okx Γ T C n k X) {f : Bf} {x : Str} (h : bltB T f x = true) : BltN X f x := by
  by_cases hf : f = .gcd
  · subst hf
    exact .g "math.gcd" rfl (ok.gcd x h)
  · rw [bltB_ne hf, Bool.and_eq_true] at h
    have e : x = bfS f := by simpa using h.1
    have hm := ok.free x h.2
    have hb := boot_bf f hf
    rw [← e] at hb
    rcases bfV_kind f with ⟨id, q⟩ | ⟨t, q⟩
    · exact .b id q hm (by rw [hb, q])
    · exact .t t q hm (by rw [hb, q])
theorem clB_ne {c : Cl} {x : Str} (hf : ∀ d, c ≠ .own d) : clB T c x = ((x == clS c) && T.free.contains x) := by
  cases c <;> first | rfl | exact absurd rfl (hf _)
theorem clOk_ne {c : Cl} (hf : ∀ d, c ≠ .own d) : clOk Γ c = true := by
  cases c <;> first | rfl | exact absurd rfl (hf _)
theorem boot_cl (c : Cl) (h : ∀ d, c ≠ .own d) : bootBuiltins (clS c) = some (clV Γ c) := by
  cases c <;> first | exact absurd rfl (h _) | with_unfolding_all rfl
theorem clOf (ok : Okx Γ T C n k X) {c : Cl} {e : Expr} (h : clE T k c e = true) : PE X e (tC (clVV Γ c)) ∧ clOk Γ c = true ∧ plainX e = true := by
  unfold clE at h
  split at h
  · rename_i x p
    simp only [Bool.and_eq_true] at h
    obtain ⟨⟨h1, h2⟩, h3⟩ := h
    obtain ⟨k1, k2, k3⟩ := okN_of h3
    by_cases hf : ∃ d, c = .own d
    · obtain ⟨d, rfl⟩ := hf
      have h1 : (decide (T.cls[d]? = some x) && decide (d < T.at_.length)) = true := h1
      simp only [Bool.and_eq_true, decide_eq_true_eq] at h1
      exact ⟨pe_glob (glOf ok h2) (ok.cls d x h1.1) rfl k1, by show decide (d < Γ.n) = true; rw [ok.tn]; exact decide_eq_true h1.2, rfl⟩
    · have hf : ∀ d, c ≠ .own d := fun d q => hf ⟨d, q⟩
      rw [clB_ne hf, Bool.and_eq_true] at h1
      have e : x = clS c := by simpa using h1.1
      have hb := boot_cl (Γ := Γ) c hf
      rw [← e] at hb
      exact ⟨pe_bltn (glOf ok h2) (ok.free x h1.2) hb (rel_clVV Γ c) k3 k1, clOk_ne hf, rfl⟩
  · cases h
theorem clsOf' (ok : Okx Γ T C n k X) : ∀ {cs : List Cl} {es : List Expr}, zipAll (clE T k) cs es = true → plainsX es = true → PA X es (tCs (cs.map (clVV Γ))) ∧ cs.all (clOk Γ) = true
  | [], [], _, _ => ⟨pa_nil, rfl⟩
  | c :: cs, e :: es, h, hp => by
    have h : clE T k c e = true ∧ zipAll (clE T k) cs es = true := by simpa [zipAll] using h
    have hp : plainX e = true ∧ plainsX es = true := by simpa [plainsX] using hp
    obtain ⟨h1, h2, h3⟩ := clOf ok h.1
    obtain ⟨h4, h5⟩ := clsOf' ok h.2 hp.2
    refine ⟨pa_cons h1 h4 (star_of hp.1), ?_⟩
    rw [List.all_cons, h2, h5]
    rfl
  | [], _ :: _, h, _ => by cases h
  | _ :: _, [], h, _ => by cases h
/-- the look's word, for one depth of the look -/
structure Snd (Γ : Tx) (T : Tab) (C : Ctx) (n m : Nat) : Prop where
  e : ∀ k X, Okx Γ T C n k X → ∀ x e, chkE T m k x e = true → ∀ ρ, SE Γ X ρ e (evE C x ρ)
  p : ∀ k X, Okx Γ T C n k X → ∀ x e, chkP T m k x e = true → ∀ ρ, SO Γ X ρ e (evP C x ρ)
  t : ∀ k X, Okx Γ T C n k X → ∀ x e, chkT T m k x e = true → ∀ ρ, ST Γ X ρ e (evT C x ρ)
  i : ∀ k X, Okx Γ T C n k X → ∀ it tg e, chkI T m k it tg e = true → ∀ ρ, SI Γ X ρ tg e (evI C it ρ)
  g : ∀ k X, Okx Γ T C n k X → ∀ tg e, chkG T m k tg e = true → SGt Γ X (tgS tg) e (asg C tg)
theorem snd0 : Snd Γ T C n 0 := ⟨fun _ _ _ _ _ h => (by cases h), fun _ _ _ _ _ h => (by cases h), fun _ _ _ _ _ h => (by cases h), fun _ _ _ _ _ _ h => (by cases h), fun _ _ _ _ _ h => (by cases h)⟩
variable {e : Expr}
/-! lists -/
theorem SA.of {es : List Expr} {F G : Sto → R (List W)} (h : SA Γ X ρ es F) (q : ∀ μ, F μ = G μ) : SA Γ X ρ es G := fun μ => q μ ▸ h μ
theorem ST.of {F G : Sto → R Bool} (h : ST Γ X ρ e F) (q : ∀ μ, F μ = G μ) : ST Γ X ρ e G := fun μ => q μ ▸ h μ
theorem SW.of {F G : Sto → R Bool} (h : SW Γ X ρ e F) (q : ∀ μ, F μ = G μ) : SW Γ X ρ e G := fun μ => q μ ▸ h μ
theorem STs.of {es : List Expr} {F G : Sto → R Bool} (h : STs Γ X ρ es F) (q : ∀ μ, F μ = G μ) : STs Γ X ρ es G := fun μ => q μ ▸ h μ
theorem SI.of {tg : Expr} {F G : Sto → R (List Sy.T)} (h : SI Γ X ρ tg e F) (q : ∀ μ, F μ = G μ) : SI Γ X ρ tg e G := fun μ => q μ ▸ h μ
theorem SO.of {oe : Option Expr} {F G : Sto → R (Option Int)} (h : SO Γ X ρ oe F) (q : ∀ μ, F μ = G μ) : SO Γ X ρ oe G := fun μ => q μ ▸ h μ
theorem SF.of {es : List Expr} {F G : Str → Sto → R Str} (h : SF Γ X ρ es F) (q : ∀ acc μ, F acc μ = G acc μ) : SF Γ X ρ es G := fun acc μ => q acc μ ▸ h acc μ
theorem SGt.of {sl : List Nat} {F G : W → Env → Sto → R Env} (h : SGt Γ X sl e F) (q : ∀ w ρ μ, F w ρ μ = G w ρ μ) : SGt Γ X sl e G := fun w ρ μ => q w ρ μ ▸ h w ρ μ
theorem SGts.of {sl : List Nat} {es : List Expr} {F G : List W → Env → Sto → R Env} (h : SGts Γ X sl es F) (q : ∀ w ρ μ, F w ρ μ = G w ρ μ) : SGts Γ X sl es G := fun w ρ μ => q w ρ μ ▸ h w ρ μ
theorem snd_L (S : Snd Γ T C n m) (ok : Okx Γ T C n k X) : ∀ {xs : List Ex} {es : List Expr}, zipAll (chkE T m k) xs es = true → plainsX es = true → ∀ ρ, SA Γ X ρ es (evL C xs ρ)
  | [], [], _, _, ρ => sa_nil.of fun μ => by rw [evL] <;> rfl
  | x :: xs, e :: es, h, hp, ρ => by
    have h : chkE T m k x e = true ∧ zipAll (chkE T m k) xs es = true := by simpa [zipAll] using h
    have hp : plainX e = true ∧ plainsX es = true := by simpa [plainsX] using hp
    exact (sa_cons (S.e k X ok x e h.1 ρ) (snd_L S ok h.2 hp.2 ρ) hp.1).of fun μ => by rw [evL] <;> rfl
  | [], _ :: _, h, _, _ => by cases h
  | _ :: _, [], h, _, _ => by cases h
theorem zipAll_len {α β : Type} {p : α → β → Bool} : ∀ {as : List α} {bs : List β}, zipAll p as bs = true → as.length = bs.length
  | [], [], _ => rfl
  | a :: as, b :: bs, h => by
    have h : p a b = true ∧ zipAll p as bs = true := by simpa [zipAll] using h
    rw [List.length_cons, List.length_cons, zipAll_len h.2]
  | [], _ :: _, h => by cases h
  | _ :: _, [], h => by cases h
theorem snd_And (S : Snd Γ T C n m) (ok : Okx Γ T C n k X) {pos : Pos} (ρ : Env) : ∀ {xs : List Ex} {es : List Expr}, zipAll (chkE T m k) xs es = true → xs ≠ [] → SE Γ X ρ (.BoolOp .And es pos) (evAnd C xs ρ)
  | [], _, _, h => absurd rfl h
  | [x], [e], h, _ => by
    have h : chkE T m k x e = true := by simpa [zipAll] using h
    exact (se_one (S.e k X ok x e h ρ)).of fun μ => by rw [evAnd] <;> rfl
  | x :: x' :: xs, e :: e' :: es, h, _ => by
    have h : chkE T m k x e = true ∧ zipAll (chkE T m k) (x' :: xs) (e' :: es) = true := by simpa [zipAll] using h
    exact (se_and (S.e k X ok x e h.1 ρ) (snd_And S ok ρ (xs := x' :: xs) (es := e' :: es) h.2 (by simp))).of fun μ => by rw [evAnd] <;> rfl
  | [_], [], h, _ => by cases h
  | [_], _ :: _ :: _, h, _ => by simp [zipAll] at h
  | _ :: _ :: _, [], h, _ => by cases h
  | _ :: _ :: _, [_], h, _ => by simp [zipAll] at h
theorem snd_Or (S : Snd Γ T C n m) (ok : Okx Γ T C n k X) {pos : Pos} (ρ : Env) : ∀ {xs : List Ex} {es : List Expr}, zipAll (chkE T m k) xs es = true → xs ≠ [] → SE Γ X ρ (.BoolOp .Or es pos) (evOr C xs ρ)
  | [], _, _, h => absurd rfl h
  | [x], [e], h, _ => by
    have h : chkE T m k x e = true := by simpa [zipAll] using h
    exact (se_one (S.e k X ok x e h ρ)).of fun μ => by rw [evOr] <;> rfl
  | x :: x' :: xs, e :: e' :: es, h, _ => by
    have h : chkE T m k x e = true ∧ zipAll (chkE T m k) (x' :: xs) (e' :: es) = true := by simpa [zipAll] using h
    exact (se_or (S.e k X ok x e h.1 ρ) (snd_Or S ok ρ (xs := x' :: xs) (es := e' :: es) h.2 (by simp))).of fun μ => by rw [evOr] <;> rfl
  | [_], [], h, _ => by cases h
  | [_], _ :: _ :: _, h, _ => by simp [zipAll] at h
  | _ :: _ :: _, [], h, _ => by cases h
  | _ :: _ :: _, [_], h, _ => by simp [zipAll] at h
theorem snd_tAnd (S : Snd Γ T C n m) (ok : Okx Γ T C n k X) {pos : Pos} (ρ : Env) : ∀ {xs : List Ex} {es : List Expr}, zipAll (chkT T m k) xs es = true → xs ≠ [] → SW Γ X ρ (.BoolOp .And es pos) (tsAnd C xs ρ)
  | [], _, _, h => absurd rfl h
  | [x], [e], h, _ => by
    have h : chkT T m k x e = true := by simpa [zipAll] using h
    exact (sw_and1 (S.t k X ok x e h ρ)).of fun μ => by rw [tsAnd]; congr 1; funext b μ; cases b <;> first | rfl | (rw [tsAnd] <;> rfl)
  | x :: x' :: xs, e :: e' :: es, h, _ => by
    have h : chkT T m k x e = true ∧ zipAll (chkT T m k) (x' :: xs) (e' :: es) = true := by simpa [zipAll] using h
    exact (sw_and (S.t k X ok x e h.1 ρ) (snd_tAnd S ok ρ (xs := x' :: xs) (es := e' :: es) h.2 (by simp))).of fun μ => by rw [tsAnd] <;> rfl
  | [_], [], h, _ => by cases h
  | [_], _ :: _ :: _, h, _ => by simp [zipAll] at h
  | _ :: _ :: _, [], h, _ => by cases h
  | _ :: _ :: _, [_], h, _ => by simp [zipAll] at h
theorem snd_tOr (S : Snd Γ T C n m) (ok : Okx Γ T C n k X) {pos : Pos} (ρ : Env) : ∀ {xs : List Ex} {es : List Expr}, zipAll (chkT T m k) xs es = true → xs ≠ [] → SW Γ X ρ (.BoolOp .Or es pos) (tsOr C xs ρ)
  | [], _, _, h => absurd rfl h
  | [x], [e], h, _ => by
    have h : chkT T m k x e = true := by simpa [zipAll] using h
    exact (sw_or1 (S.t k X ok x e h ρ)).of fun μ => by rw [tsOr]; congr 1; funext b μ; cases b <;> first | rfl | (rw [tsOr] <;> rfl)
  | x :: x' :: xs, e :: e' :: es, h, _ => by
    have h : chkT T m k x e = true ∧ zipAll (chkT T m k) (x' :: xs) (e' :: es) = true := by simpa [zipAll] using h
    exact (sw_or (S.t k X ok x e h.1 ρ) (snd_tOr S ok ρ (xs := x' :: xs) (es := e' :: es) h.2 (by simp))).of fun μ => by rw [tsOr] <;> rfl
  | [_], [], h, _ => by cases h
  | [_], _ :: _ :: _, h, _ => by simp [zipAll] at h
  | _ :: _ :: _, [], h, _ => by cases h
  | _ :: _ :: _, [_], h, _ => by simp [zipAll] at h
theorem snd_ifs (S : Snd Γ T C n m) (ok : Okx Γ T C n k X) (ρ : Env) : ∀ {xs : List Ex} {es : List Expr}, zipAll (chkT T m k) xs es = true → xs.length ≤ 1 → STs Γ X ρ es (tsAnd C xs ρ)
  | [], [], _, _ => sts_nil.of fun μ => by rw [tsAnd] <;> rfl
  | [x], [e], h, _ => by
    have h : chkT T m k x e = true := by simpa [zipAll] using h
    exact (sts_one (S.t k X ok x e h ρ)).of fun μ => by rw [tsAnd]; congr 1; funext b μ; cases b <;> first | rfl | (rw [tsAnd] <;> rfl)
  | [], _ :: _, h, _ => by cases h
  | [_], [], h, _ => by cases h
  | [_], _ :: _ :: _, h, _ => by simp [zipAll] at h
  | _ :: _ :: _, _, _, h => by simp at h
theorem snd_F (S : Snd Γ T C n m) (ok : Okx Γ T C n k X) (ρ : Env) : ∀ {xs : List Ex} {es : List Expr}, zipAll (chkE T m k) xs es = true → SF Γ X ρ es fun acc => evF C xs acc ρ
  | [], [], _ => sf_nil.of fun acc μ => by rw [evF] <;> rfl
  | x :: xs, e :: es, h => by
    have h : chkE T m k x e = true ∧ zipAll (chkE T m k) xs es = true := by simpa [zipAll] using h
    exact (sf_cons (S.e k X ok x e h.1 ρ) (snd_F S ok ρ h.2)).of fun acc μ => by rw [evF] <;> rfl
  | [], _ :: _, h => by cases h
  | _ :: _, [], h => by cases h
theorem snd_Gs (S : Snd Γ T C n m) (ok : Okx Γ T C n k X) : ∀ {ts : List Tg} {es : List Expr}, zipAll (chkG T m k) ts es = true → nosX es = true → SGts Γ X (tgSs ts) es (asgs C ts)
  | [], [], _, _ => (sgs_nil (Γ := Γ) (X := X) (sl := [])).of fun ws ρ μ => by cases ws <;> simp [asgs]
  | t :: ts, e :: es, h, hn => by
    have h : chkG T m k t e = true ∧ zipAll (chkG T m k) ts es = true := by simpa [zipAll] using h
    have hn : isNm e = true ∧ nosX es = true := by simpa [nosX] using hn
    exact (sgs_cons (S.g k X ok t e h.1) (snd_Gs S ok h.2 hn.2) hn.1).of fun ws ρ μ => by cases ws <;> simp [asgs]
  | [], _ :: _, h, _ => by cases h
  | _ :: _, [], h, _ => by cases h
end
end Sy
end

section
set_option Elab.async false
set_option linter.all false
set_option maxRecDepth 100000
/-! SyX: one depth more. -/
namespace Sy
open PySem L2 PyProof.Rows
section
variable {Γ : Tx} {T : Tab} {C : Ctx} {n m : Nat} {k : Sk} {X Y : Cx} {scope : Scope} {ρ : Env}
theorem Rep.zero {t : Sy.T} {v : V} {Z : Addr → Prop} {S : Hp} (h : Rep Γ (fun _ => False) (fun _ => none) t v) : Rep Γ Z S t v := Rep.mono (fun _ z => z.elim) (fun _ z => z.elim) t v h
theorem hu1 (ok : Okx Γ T C n k X) : X.A.units + 1 < cLine := by have := ok.hu; omega
theorem dr_sub {a b : List Nat} (h : subN a b = true) : ∀ i ∈ a, i ∈ b := fun i hi => by
  unfold subN at h
  rw [List.all_eq_true] at h
  simpa using h i hi
theorem own_snd (k : Sk) (dr : List Nat) : (ownOf k dr).map (·.2) = dr := by
  unfold ownOf
  rw [List.map_map]
  exact List.map_id dr
theorem ne_nil {α : Type} {l : List α} (h : (!l.isEmpty) = true) : l ≠ [] := by
  cases l with
  | nil => cases h
  | cons _ _ => simp
theorem nil_of_zip {α β : Type} {p : α → β → Bool} {as : List α} {bs : List β} (h : zipAll p as bs = true) (hn : as ≠ []) : ∃ b bs', bs = b :: bs' := by
  cases as with
  | nil => exact absurd rfl hn
  | cons a as =>
    cases bs with
    | nil => cases h
    | cons b bs => exact ⟨b, bs, rfl⟩
theorem eqS {x : Str} {y : Str} (h : (x == y) = true) : x = y := by simpa using h
theorem lookup_mem {c f : Nat} {al : List (Nat × Nat)} (hl : al.lookup c = some f) : (c, f) ∈ al := by
  induction al with
  | nil => cases hl
  | cons p al ih =>
    obtain ⟨p1, p2⟩ := p
    rw [List.lookup_cons] at hl
    by_cases q : (c == p1) = true
    · rw [q] at hl
      have q : c = p1 := by simpa using q
      cases hl
      rw [q]
      exact List.mem_cons_self
    · have q : (c == p1) = false := by simpa using q
      rw [q] at hl
      exact List.mem_cons_of_mem _ (ih hl)
theorem snd_lc (S : Snd Γ T C n m) (ok : Okx Γ T C n k X) {kp : Bool} {dr : List Nat} {it : It} {tg : Tg} {ifs : List Ex} {x : Ex} {e : Expr} (h : chkE T (m + 1) k (.comp kp dr it tg ifs x) e = true) (ρ : Env) : SE2 Γ X ρ e (evE C (.comp kp dr it tg ifs x) ρ) := by
  unfold chkE at h
  dsimp only at h
  split at h
  · rename_i elt t i ifs' a sc p
    simp only [Bool.and_eq_true, decide_eq_true_eq] at h
    obtain ⟨⟨⟨⟨⟨⟨⟨⟨rfl, hb⟩, hs⟩, hp⟩, h1⟩, h2⟩, h3⟩, h4⟩, h5⟩ := h
    have bo := blkOk_by hb
    have okY := fun Y (hY : IsBlk X sc Y) => blkOf ok _ bo hY
    have r := se_lc (Γ := Γ) (pos := p) (k := kp) ok.hc ok.hN (S.i k X ok it t i h1 ρ) (own := ownOf k dr) (by rw [ok.eN, ok.eS]; exact bo) (by rw [own_snd]; exact dr_sub hs) (fun Y hY => S.g _ Y (okY Y hY) tg t h2) (fun Y hY ρ => snd_ifs S (okY Y hY) ρ h4 h3) (fun Y hY ρ => S.e _ Y (okY Y hY) x elt h5 ρ) hp
    rw [own_snd] at r
    have q : (fun μ => (evI C it ρ μ).bind fun xs μ => (gath (cbody dr (asg C tg) (tsAnd C ifs) (frE (evE C x)) ρ) xs μ).bind fun vs μ => if vs.length ≤ sizeLine then fin kp (.c (.lst vs)) μ else .bad) = evE C (.comp kp dr it tg ifs x) ρ := by
      funext μ
      rw [evE]
    rw [← q]
    exact r
  · cases h
theorem st_none {a b : Bool} (h : (a && b) = true) : a = true := by
  rw [Bool.and_eq_true] at h
  exact h.1
theorem st_snd {a b : Bool} (h : (a && b) = true) : b = true := by
  rw [Bool.and_eq_true] at h
  exact h.2
theorem snd_e (S : Snd Γ T C n m) (ok : Okx Γ T C n k X) {x : Ex} {e : Expr} (h : chkE T (m + 1) k x e = true) (ρ : Env) : SE Γ X ρ e (evE C x ρ) := by
  cases x with
  | never => exact se_bad.of fun μ => by rw [evE]
  | var i =>
    unfold chkE at h
    dsimp only at h
    split at h
    · simp only [Bool.and_eq_true, decide_eq_true_eq] at h
      obtain ⟨⟨h1, h2⟩, h3⟩ := h
      obtain ⟨k1, k2, k3⟩ := okN_of h3
      exact (se_var (by rw [ok.eN]; exact h1) (visOf ok h2) k1 k2).of fun μ => by rw [evE] <;> rfl
    · cases h
  | cst t =>
    unfold chkE at h
    dsimp only at h
    split at h
    · exact (se_cst (of_decide_eq_true h)).of fun μ => by rw [evE]
    · cases h
  | glb j =>
    unfold chkE at h
    dsimp only at h
    split at h
    · rename_i y p
      simp only [Bool.and_eq_true] at h
      obtain ⟨⟨h1, h2⟩, h3⟩ := h
      obtain ⟨k1, k2, k3⟩ := okN_of h3
      split at h1
      · rename_i q hq
        obtain ⟨z, t⟩ := q
        have h1 : z = y := of_decide_eq_true h1
        subst h1
        obtain ⟨g1, u, v, g2, g3, g4⟩ := ok.glb j z t hq
        refine fun μ => PE.imp (pe_glob (glOf ok h2) g2 g3 k1) fun σ H Q ⟨Z, ad, s, l, w⟩ => ?_
        rw [evE, g1] at w
        exact w.now s g4.zero
      · cases h1
    · cases h
  | op2 o kp a b =>
    unfold chkE at h
    dsimp only at h
    split at h
    · simp only [Bool.and_eq_true, decide_eq_true_eq] at h
      obtain ⟨⟨rfl, h1⟩, h2⟩ := h
      exact (se_op2 ok.hK (S.e k X ok a _ h1 ρ) (S.e k X ok b _ h2 ρ)).of fun μ => by rw [evE] <;> rfl
    · cases h
  | neg a =>
    unfold chkE at h
    dsimp only at h
    split at h
    · exact (se_neg (S.e k X ok a _ h ρ)).of fun μ => by rw [evE] <;> rfl
    · cases h
  | nt a =>
    unfold chkE at h
    dsimp only at h
    split at h
    · exact (se_nt (S.e k X ok a _ h ρ)).of fun μ => by rw [evE] <;> rfl
    · cases h
  | and_ as =>
    unfold chkE at h
    dsimp only at h
    split at h
    · simp only [Bool.and_eq_true] at h
      exact (snd_And S ok ρ h.2 (ne_nil h.1)).of fun μ => by rw [evE]
    · cases h
  | or_ as =>
    unfold chkE at h
    dsimp only at h
    split at h
    · simp only [Bool.and_eq_true] at h
      exact (snd_Or S ok ρ h.2 (ne_nil h.1)).of fun μ => by rw [evE]
    · cases h
  | ife c a b =>
    unfold chkE at h
    dsimp only at h
    split at h
    · simp only [Bool.and_eq_true] at h
      obtain ⟨⟨h1, h2⟩, h3⟩ := h
      exact (se_ife (S.t k X ok c _ h1 ρ) (S.e k X ok a _ h2 ρ) (S.e k X ok b _ h3 ρ)).of fun μ => by rw [evE] <;> rfl
    · cases h
  | cmp o a b =>
    unfold chkE at h
    dsimp only at h
    split at h
    · simp only [Bool.and_eq_true, decide_eq_true_eq] at h
      obtain ⟨⟨⟨rfl, hp⟩, h1⟩, h2⟩ := h
      exact (se_cmp ok.hK ok.hu (S.e k X ok a _ h1 ρ) (S.e k X ok b _ h2 ρ) (behind_of hp)).of fun μ => by rw [evE] <;> rfl
    · cases h
  | chn o p a b c =>
    unfold chkE at h
    dsimp only at h
    split at h
    · simp only [Bool.and_eq_true, decide_eq_true_eq] at h
      obtain ⟨⟨⟨⟨⟨rfl, rfl⟩, hp⟩, h1⟩, h2⟩, h3⟩ := h
      exact (se_chn ok.hK ok.hu (S.e k X ok a _ h1 ρ) (S.e k X ok b _ h2 ρ) (S.e k X ok c _ h3 ρ) (last_of hp)).of fun μ => by rw [evE] <;> rfl
    · cases h
  | tup es =>
    unfold chkE at h
    dsimp only at h
    split at h
    · simp only [Bool.and_eq_true] at h
      exact (se_tup (snd_L S ok h.1 h.2 ρ)).of fun μ => by rw [evE] <;> rfl
    · cases h
  | lst kp es =>
    unfold chkE at h
    dsimp only at h
    split at h
    · simp only [Bool.and_eq_true] at h
      exact (se_lst (snd_L S ok h.1 h.2 ρ)).of fun μ => by rw [evE] <;> rfl
    · cases h
  | dct kp =>
    unfold chkE at h
    dsimp only at h
    split at h
    · exact se_dct.of fun μ => by rw [evE]
    · cases h
  | idx a i =>
    unfold chkE at h
    dsimp only at h
    split at h
    · simp only [Bool.and_eq_true] at h
      obtain ⟨⟨hp, h1⟩, h2⟩ := h
      exact (se_idx ok.hK (hu1 ok) (S.e k X ok a _ h1 ρ) (S.e k X ok i _ h2 ρ) hp).of fun μ => by rw [evE] <;> rfl
    · cases h
  | slc kp a lo hi =>
    unfold chkE at h
    dsimp only at h
    split at h
    · simp only [Bool.and_eq_true] at h
      obtain ⟨⟨h1, h2⟩, h3⟩ := h
      exact (se_slc ok.hK (S.e k X ok a _ h1 ρ) (S.p k X ok lo _ h2 ρ) (S.p k X ok hi _ h3 ρ)).of fun μ => by rw [evE] <;> rfl
    · cases h
  | att al a =>
    unfold chkE at h
    dsimp only at h
    split at h
    · simp only [Bool.and_eq_true] at h
      obtain ⟨⟨h1, h2⟩, h3⟩ := h
      exact (se_att ok.hK ok.B ok.A (alOf ok h1) (S.e k X ok a _ h3 ρ) h2).of fun μ => by rw [evE] <;> rfl
    · cases h
  | isi cs a =>
    unfold chkE at h
    dsimp only at h
    split at h
    · simp only [Bool.and_eq_true, decide_eq_true_eq] at h
      obtain ⟨⟨⟨⟨⟨⟨⟨⟨hf, hg⟩, hfr⟩, hne⟩, hl⟩, hz⟩, hpl⟩, hp⟩, h1⟩ := h
      cases eqS hf
      obtain ⟨g1, g2⟩ := clsOf' ok hz hpl
      exact (se_isiT ok.hK ok.B (glOf ok hg) (ok.free _ hfr) g2 (ne_nil hne) (Nat.le_trans hl (by decide)) (S.e k X ok a _ h1 ρ) g1 hp).of fun μ => by rw [evE] <;> rfl
    · simp only [Bool.and_eq_true] at h
      obtain ⟨⟨⟨⟨⟨hf, hg⟩, hfr⟩, hc⟩, hp⟩, h1⟩ := h
      cases eqS hf
      split at hc
      · obtain ⟨g1, g2, g3⟩ := clOf ok hc
        exact (se_isi ok.hK ok.B (glOf ok hg) (ok.free _ hfr) g2 (S.e k X ok a _ h1 ρ) g1 hp g3).of fun μ => by rw [evE] <;> rfl
      · cases hc
    · cases h
  | blt kp f es =>
    unfold chkE at h
    dsimp only at h
    split at h
    · simp only [Bool.and_eq_true] at h
      obtain ⟨⟨⟨⟨⟨hne, hb⟩, hg⟩, hn⟩, hz⟩, hp⟩ := h
      obtain ⟨k1, k2, k3⟩ := okN_of hn
      obtain ⟨b, bs, rfl⟩ := nil_of_zip hz (ne_nil hne)
      exact (se_blt ok.hK ok.hc (bltOf ok hb) (glOf ok hg) k3 k1 (snd_L S ok hz hp ρ) hp).of fun μ => by rw [evE] <;> rfl
    · cases h
  | bmt kp mm es =>
    unfold chkE at h
    dsimp only at h
    split at h
    · rename_i o x' ap args cp
      simp only [Bool.and_eq_true, decide_eq_true_eq] at h
      obtain ⟨⟨⟨⟨⟨⟨⟨rfl, hline⟩, hb⟩, hpo⟩, hf⟩, hne⟩, hz⟩, hp⟩ := h
      cases es with
      | nil => cases hz
      | cons x0 xs =>
        have hz : chkE T m k x0 o = true ∧ zipAll (chkE T m k) xs args = true := by simpa [zipAll] using hz
        cases args with
        | nil => cases hne
        | cons a0 args =>
          exact (se_bmt ok.hK (S.e k X ok x0 _ hz.1 ρ) (snd_L S ok hz.2 hp ρ) hb hp (by rw [List.length_cons] at hf; omega) hline).of fun μ => by
            rw [evE]
            congr 1
            rw [evL] <;> rfl
    · cases h
  | call kp f es =>
    unfold chkE at h
    dsimp only at h
    split at h
    · simp only [Bool.and_eq_true] at h
      obtain ⟨⟨⟨⟨hd, hg⟩, hn⟩, hz⟩, hp⟩ := h
      obtain ⟨k1, k2, k3⟩ := okN_of hn
      split at hd
      · rename_i d hq
        obtain ⟨hnp, fa, fdd, ps, Fn, hb, g1, g2, g3⟩ := ok.fno f d hq (st_none hd)
        obtain ⟨m1, m2⟩ := g1 _ (of_decide_eq_true (st_snd hd))
        have hr := ok.hr.mono (show 2 * n ≤ 2 * n + 1 by omega)
        rename_i x p args ps' _
        cases args with
        | nil =>
          have : es = [] := by cases es with | nil => rfl | cons _ _ => cases hz
          subst this
          exact (se_call0 Fn hnp hr (glOf ok hg) m1 m2 hb k1).of fun μ => by rw [evE]; congr 1; rw [evL]
        | cons a0 args => exact (se_call Fn hnp hr (glOf ok hg) m1 m2 hb (snd_L S ok hz hp ρ) hp k1).of fun μ => by rw [evE]
      · cases hd
    · cases h
  | new kp c f es =>
    unfold chkE at h
    dsimp only at h
    split at h
    · simp only [Bool.and_eq_true, decide_eq_true_eq] at h
      obtain ⟨⟨⟨⟨⟨⟨⟨hd, hc⟩, hcl⟩, hg⟩, hn⟩, hne⟩, hz⟩, hp⟩ := h
      obtain ⟨k1, k2, k3⟩ := okN_of hn
      split at hd
      · rename_i d hq
        obtain ⟨hnp, fa, fdd, ps, Fn, hb, g1, g2, g3⟩ := ok.fno f d hq (st_none hd)
        have m1 := g3 _ (of_decide_eq_true (st_snd hd))
        obtain ⟨b, bs, rfl⟩ := nil_of_zip hz (ne_nil hne)
        exact (se_make m1 Fn hnp (by rw [ok.tn]; exact hcl) ok.hr (glOf ok hg) (ok.cls c _ hc) hb (snd_L S ok hz hp ρ) hp k1).of fun μ => by rw [evE]
      · cases hd
    · cases h
  | mth kp al o es =>
    unfold chkE at h
    dsimp only at h
    split at h
    · rename_i l mm ap args cp
      simp only [Bool.and_eq_true, decide_eq_true_eq] at h
      obtain ⟨⟨⟨⟨⟨⟨hal, hline⟩, hb⟩, hf⟩, ho⟩, hz⟩, hp⟩ := h
      have hm : ∀ c f, al.lookup c = some f → MthOk Γ X C mm c f := fun c f hl => by
        rw [List.all_eq_true] at hal
        have hmem : (c, f) ∈ al := lookup_mem hl
        have := hal (c, f) hmem
        simp only [Bool.and_eq_true, decide_eq_true_eq, Bool.not_eq_true'] at this
        obtain ⟨⟨hd, hc⟩, hno⟩ := this
        split at hd
        · rename_i d hq
          obtain ⟨hnp, fa, fdd, ps, Fn, hb, g1, g2, g3⟩ := ok.fno f d hq (st_none hd)
          refine ⟨⟨2 * n, d.fd.np, fa, fdd, ps, g2 _ _ (of_decide_eq_true (st_snd hd)), ok.hK ▸ ok.B.cls c (by rw [ok.tn]; exact hc), Fn, ok.hr.mono (by omega), hb, hnp⟩, ?_⟩
          rw [ok.ta]
          intro z
          have : (T.atL c).contains mm = true := by simpa using z
          rw [this] at hno; cases hno
        · cases hd
      cases args with
      | nil =>
        have : es = [] := by cases es with | nil => rfl | cons _ _ => cases hz
        subst this
        exact (se_mth0 ok.hK hm (S.e k X ok o _ ho ρ) hb hline).of fun μ => by
          rw [evE]
          congr 1
          funext w μ
          cases clsOf (view w μ) with
          | none => rfl
          | some c =>
            cases q : al.lookup c with
            | none => simp only [q]
            | some f => simp only [q]; congr 1; rw [evL]
      | cons a0 args => exact (se_mth ok.hK hm (S.e k X ok o _ ho ρ) (snd_L S ok hz hp ρ) hp hb hf hline).of fun μ => by rw [evE] <;> rfl
    · cases h
  | comp kp dr it tg ifs x => exact (snd_lc S ok h ρ).1
  | dcomp kp dr it tg ifs x v =>
    unfold chkE at h
    dsimp only at h
    split at h
    · rename_i kx vx t i ifs' a sc p
      simp only [Bool.and_eq_true, decide_eq_true_eq] at h
      obtain ⟨⟨⟨⟨⟨⟨⟨⟨⟨rfl, hb⟩, hs⟩, hp⟩, h1⟩, h2⟩, h3⟩, h4⟩, h5⟩, h6⟩ := h
      have bo := blkOk_by hb
      have okY := fun Y (hY : IsBlk X sc Y) => blkOf ok _ bo hY
      have r := se_dc (Γ := Γ) (pos := p) (k := kp) ok.hc ok.hN (S.i k X ok it t i h1 ρ) (own := ownOf k dr) (by rw [ok.eN, ok.eS]; exact bo) (by rw [own_snd]; exact dr_sub hs) (fun Y hY => S.g _ Y (okY Y hY) tg t h2) (fun Y hY ρ => snd_ifs S (okY Y hY) ρ h4 h3) (fun Y hY ρ => S.e _ Y (okY Y hY) x kx h5 ρ) (fun Y hY ρ => S.e _ Y (okY Y hY) v vx h6 ρ) hp
      rw [own_snd] at r
      exact r.of fun μ => by rw [evE]
    · cases h
  | dcomp2 kp dr it tg it2 tg2 ifs x v =>
    unfold chkE at h
    dsimp only at h
    split at h
    · rename_i kx vx t i a t2 i2 ifs' a2 sc p
      simp only [Bool.and_eq_true, decide_eq_true_eq] at h
      obtain ⟨⟨⟨⟨⟨⟨⟨⟨⟨⟨⟨⟨⟨⟨rfl, rfl⟩, hb⟩, hs⟩, hs2⟩, hp⟩, hp2⟩, h1⟩, h2⟩, h7⟩, h8⟩, h3⟩, h4⟩, h5⟩, h6⟩ := h
      have bo := blkOk_by hb
      have okY := fun Y (hY : IsBlk X sc Y) => blkOf ok _ bo hY
      have r := se_dc2 (Γ := Γ) (pos := p) (k := kp) (dr1 := tgS tg2) ok.hc ok.hN (S.i k X ok it t i h1 ρ) (own := ownOf k dr) (by rw [ok.eN, ok.eS]; exact bo) (by rw [own_snd]; exact dr_sub hs) (by rw [own_snd]; exact dr_sub hs2) (fun i hi => hi) (fun Y hY => S.g _ Y (okY Y hY) tg t h2) (fun Y hY ρ => S.i _ Y (okY Y hY) it2 t2 i2 h7 ρ) (fun Y hY => S.g _ Y (okY Y hY) tg2 t2 h8) (fun Y hY ρ => snd_ifs S (okY Y hY) ρ h4 h3) (fun Y hY ρ => S.e _ Y (okY Y hY) x kx h5 ρ) (fun Y hY ρ => S.e _ Y (okY Y hY) v vx h6 ρ) hp hp2
      rw [own_snd] at r
      exact r.of fun μ => by rw [evE]
    · cases h
  | fst es =>
    unfold chkE at h
    dsimp only at h
    split at h
    · simp only [Bool.and_eq_true, decide_eq_true_eq] at h
      rename_i xs p
      obtain ⟨h1, hz⟩ := h
      have hl := zipAll_len hz
      cases xs with
      | nil => rw [List.length_nil] at hl; omega
      | cons a xs =>
        cases xs with
        | nil => rw [List.length_singleton] at hl; omega
        | cons b xs => exact (se_fst (snd_F S ok ρ hz)).of fun μ => by rw [evE]
    · cases h
  | fm f x =>
    unfold chkE at h
    dsimp only at h
    split at h
    · simp only [Bool.and_eq_true] at h
      obtain ⟨hf, hz⟩ := h
      cases f with
      | no => exact (fm_no (S.e k X ok x _ hz ρ)).of fun μ => by rw [evE] <;> rfl
      | left _ => cases hf
      | right _ => cases hf
    · simp only [Bool.and_eq_true] at h
      obtain ⟨hf, hz⟩ := h
      exact (se_fmW hf (S.e k X ok x _ hz ρ)).of fun μ => by rw [evE] <;> rfl
    · cases h
  | newV kp c f st es kv =>
    unfold chkE at h
    dsimp only at h
    split at h
    · rename_i x p args kn ke kpos pos
      simp only [Bool.and_eq_true, decide_eq_true_eq] at h
      obtain ⟨⟨⟨⟨⟨⟨hd, hc⟩, hcl⟩, hg⟩, hn⟩, hk⟩, hr⟩ := h
      obtain ⟨k1, k2, k3⟩ := okN_of hn
      split at hd
      · rename_i d hq
        simp only [Bool.and_eq_true, decide_eq_true_eq] at hd
        obtain ⟨hnp, fa, Fn, g3⟩ := ok.fnv f d kn hq hd.1
        have m1 := g3 _ hd.2
        have hcn : c < Γ.n := by rw [ok.tn]; exact hcl
        split at hr
        · simp only [Bool.and_eq_true] at hr
          cases args with
          | nil =>
            have : es = [] := by cases es with | nil => rfl | cons _ _ => cases hr.1
            subst this
            exact (se_newV0 m1 Fn hnp hcn ok.hr (glOf ok hg) (ok.cls c _ hc) (S.e k X ok kv ke hk ρ) k1).of fun μ => by
              rw [evE, evL] <;> rfl
          | cons a0 args => exact (se_newV1 m1 Fn hnp hcn ok.hr (glOf ok hg) (ok.cls c _ hc) (snd_L S ok hr.1 hr.2 ρ) hr.2 (S.e k X ok kv ke hk ρ) k1).of fun μ => by rw [evE] <;> rfl
        · split at hr
          · rename_i y a sp
            exact (se_newVS ok.hK m1 Fn hnp hcn ok.hr (glOf ok hg) (ok.cls c _ hc) (S.e k X ok y a hr ρ) (S.e k X ok kv ke hk ρ) k1).of fun μ => by
              rw [evE]
              rw [evL]
              congr 1
              congr 1
              funext w μ
              rw [evL] <;> rfl
          · cases hr
      · cases hd
    · cases h
  | lenO al x =>
    unfold chkE at h
    dsimp only at h
    split at h
    · simp only [Bool.and_eq_true] at h
      obtain ⟨⟨⟨⟨⟨hf, hg⟩, hfr⟩, hal⟩, hp⟩, h1⟩ := h
      cases eqS hf
      refine (se_lenO (al := al) ok.hK (glOf ok hg) (ok.free _ hfr) (fun c f hl => ?_) (S.e k X ok x _ h1 ρ) hp).of fun μ => by rw [evE] <;> rfl
      rw [List.all_eq_true] at hal
      have hd := hal (c, f) (lookup_mem hl)
      dsimp only at hd
      split at hd
      · rename_i d hq
        obtain ⟨hnp, fa, fdd, ps, Fn, hb, g1, g2, g3⟩ := ok.fno f d hq (st_none hd)
        exact ⟨2 * n, d.fd.np, fa, fdd, ps, g2 _ _ (of_decide_eq_true (st_snd hd)), Fn, ok.hr, hb, hnp⟩
      · cases hd
    · cases h
  | comp2 _ _ _ _ _ _ _ _ => unfold chkE at h; cases h
  | lstg kp f es =>
    unfold chkE at h
    dsimp only at h
    split at h
    · rename_i l p2 x p args cpos pos
      simp only [Bool.and_eq_true] at h
      obtain ⟨⟨⟨⟨⟨⟨⟨⟨hl, hgl⟩, hfl⟩, hd⟩, hg⟩, hN⟩, hne⟩, h1⟩, h2⟩ := h
      cases eqS hl
      obtain ⟨k1, _, _⟩ := okN_of hN
      split at hd
      · rename_i d hq
        have hd := of_decide_eq_true hd
        subst hd
        cases es with
        | nil => cases hne
        | cons e0 es =>
          cases args with
          | nil => cases h1
          | cons a0 args =>
            rcases ok.gno f d hq with hno | ⟨kk, fa, fdd, ps, hkk, G, hb, hm, hkeep⟩
            · refine fun μ => ⟨fun _ _ _ _ _ _ ⟨_, _, _, _, h⟩ => ?_⟩
              rw [evE] at h
              cases q : evL C (e0 :: es) ρ μ with
              | exc _ _ => rw [q] at h; exact h.elim
              | bad => rw [q] at h; exact h.elim
              | ok ws μ1 =>
                rw [q] at h
                cases q2 : toTs ws μ1 with
                | exc _ _ => simp only [R.bind, q2, Out] at h
                | bad => simp only [R.bind, q2, Out] at h
                | ok ts μ2 => simp only [R.bind, q2, hno, Out] at h
            · exact (Sg.se_lstg (kp := kp) ok.nox G (ok.hr.mono hkk) (glOf ok hg) hm hkeep hb (fun ρ => snd_L S ok h1 h2 ρ) h2 k1 (glOf ok hgl) (ok.free _ hfl)).of fun μ => by rw [evE] <;> rfl
      · cases hd
    · cases h
theorem snd_p (S : Snd Γ T C n m) (ok : Okx Γ T C n k X) {x : Ex} {e : Option Expr} (h : chkP T (m + 1) k x e = true) (ρ : Env) : SO Γ X ρ e (evP C x ρ) := by
  by_cases hx : x = .cst .non
  · subst hx
    unfold chkP at h
    dsimp only at h
    cases e with
    | none => exact so_none.of fun μ => by rw [evP]
    | some _ => cases h
  · cases e with
    | none =>
      exfalso
      unfold chkP at h
      dsimp only at h
      split at h
      · exact hx rfl
      · cases h
    | some e =>
      have h : chkE T m k x e = true := by
        unfold chkP at h
        dsimp only at h
        split at h
        · cases h
        · exact h
      refine (so_some (S.e k X ok x e h ρ)).of fun μ => ?_
      rw [evP]
      exact fun q => hx q
theorem snd_t (S : Snd Γ T C n m) (ok : Okx Γ T C n k X) {x : Ex} {e : Expr} (h : chkT T (m + 1) k x e = true) (ρ : Env) : ST Γ X ρ e (evT C x ρ) := by
  have gen : (testX e && chkE T m k x e) = true → (∀ μ, evT C x ρ μ = asT (evE C x ρ μ)) → ST Γ X ρ e (evT C x ρ) := fun h q => by
    simp only [Bool.and_eq_true] at h
    exact (st_val ok.hK (S.e k X ok x e h.2 ρ) h.1).of fun μ => (q μ).symm
  cases x <;> unfold chkT at h <;> dsimp only at h <;> first | exact gen h (fun μ => by rw [evT] <;> simp) | skip
  case nt a =>
    split at h
    · exact (st_nt (S.t k X ok a _ h ρ)).of fun μ => by rw [evT]
    · cases h
  case and_ as =>
    split at h
    · simp only [Bool.and_eq_true] at h
      exact (SW.st (snd_tAnd S ok ρ h.2 (ne_nil h.1))).of fun μ => by rw [evT]
    · cases h
  case or_ as =>
    split at h
    · simp only [Bool.and_eq_true] at h
      exact (SW.st (snd_tOr S ok ρ h.2 (ne_nil h.1))).of fun μ => by rw [evT]
    · cases h
  case cmp o a b =>
    split at h
    · simp only [Bool.and_eq_true, decide_eq_true_eq] at h
      obtain ⟨⟨⟨rfl, hp⟩, h1⟩, h2⟩ := h
      exact (st_cmpT ok.hK ok.hu (S.e k X ok a _ h1 ρ) (S.e k X ok b _ h2 ρ) (behind_of hp)).of fun μ => by
        rw [evT]
        · rw [evE] <;> rfl
        all_goals simp
    · cases h
  case chn o p a b c =>
    split at h
    · simp only [Bool.and_eq_true, decide_eq_true_eq] at h
      obtain ⟨⟨⟨⟨⟨rfl, rfl⟩, hp⟩, h1⟩, h2⟩, h3⟩ := h
      exact (st_chnT ok.hK ok.hu (S.e k X ok a _ h1 ρ) (S.e k X ok b _ h2 ρ) (S.e k X ok c _ h3 ρ) (last_of hp)).of fun μ => by
        rw [evT]
        · rw [evE] <;> rfl
        all_goals simp
    · cases h
theorem snd_g (S : Snd Γ T C n m) (ok : Okx Γ T C n k X) {tg : Tg} {e : Expr} (h : chkG T (m + 1) k tg e = true) : SGt Γ X (tgS tg) e (asg C tg) := by
  cases tg with
  | nm i =>
    unfold chkG at h
    dsimp only at h
    split at h
    · simp only [Bool.and_eq_true, Bool.or_eq_true, decide_eq_true_eq] at h
      obtain ⟨⟨h1, h2⟩, h3⟩ := h
      exact (sg_nm ok.hN (by rw [ok.eN]; exact h1) (locOf ok h2) (h3.imp (ok.eF _) (fun z => by rw [ok.eS]; exact z))).of fun w ρ μ => by rw [asg]
    · cases h
  | tp ts =>
    unfold chkG at h
    dsimp only at h
    split at h
    · simp only [Bool.and_eq_true] at h
      obtain ⟨h1, h2⟩ := h
      have r := sg_tp (pos := by assumption) (k := by assumption) ok.hc ok.hK (snd_Gs S ok h1 h2) (zipAll_len h1).symm h2
      exact r.of fun w ρ μ => by rw [asg] <;> rfl
    · cases h
  | sb a i =>
    unfold chkG at h
    dsimp only at h
    split at h
    · simp only [Bool.and_eq_true] at h
      obtain ⟨⟨hp, h1⟩, h2⟩ := h
      exact (sg_sb (hu1 ok) hp (fun ρ => S.e k X ok a _ h1 ρ) (fun ρ => S.e k X ok i _ h2 ρ)).of fun w ρ μ => by rw [asg] <;> rfl
    · cases h
end
end Sy
end

section
set_option Elab.async false
set_option linter.all false
set_option maxRecDepth 100000
/-! SyY: enumerate of a tuple. -/
namespace SyT
open PySem PySem.Spec PyProof.Rows L2
open AutoSeq1 (wpAny_loadPart')
theorem meets_enumerate_newT (l : Addr) (items : Array Value) (n : Nat) (dct : Option Addr) (sl : Array (Option Value)) :
    Meets (Builtin.«enumerate.__new__» ⟨[.type "enumerate", .ref l], []⟩) (fun _ R s => s.heap.get? l = some { cls := .type "tuple", dict := dct, data := .seq items n, slots := sl } ∧
      R (.ok (.ret (.ref (s.heap.push { cls := .type "tuple_iterator", data := .fields #[.ref l, .int 0 0] }).objs.size)))
        { s with heap := (s.heap.push { cls := .type "tuple_iterator", data := .fields #[.ref l, .int 0 0] }).push { cls := .type "enumerate", data := .fields #[.none, .bool false, .ref s.heap.objs.size, rawInt 0, .none, .none] } }) :=
  .of_wp fun prog w A R s h => by
    obtain ⟨hp, g, d, tk, os⟩ := s; obtain ⟨hl, h⟩ := h
    have hsub := sub_enumerate
    have hL : Heap.IsTuple (Shared.heap ⟨hp, g, d, tk, os⟩) l items := ⟨_, hl, rfl, n, rfl⟩
    wp_walk using wpAny_loadPart' hl
    refine wpAny_stack_any fun st => wpAny_pure ?_
    split
    · rename_i c _ _ _ _ _
      cases (c == Value.type "enumerate")
      · wp_walk using wpAny_loadPart' hl, wpAny_pyIter_tuple hL
        exact ⟨_, rfl, h⟩
      · wp_walk using wpAny_loadPart' hl, wpAny_pyIter_tuple hL
        exact ⟨_, rfl, h⟩
    · wp_walk using wpAny_loadPart' hl, wpAny_pyIter_tuple hL
      exact ⟨_, rfl, h⟩
section
variable {prog : Program} {w : World} {A : Around} {E : Value → Shared → Prop} {s : Shared}
theorem call_enumerate_tuple {l : Addr} {items : Array Value} {Q : Value → Shared → Prop} (hL : s.heap.IsTuple l items)
    (h : ∀ h', IsEnum h' (s.heap.objs.size + 1) s.heap.objs.size 0 .none → h'.IsTupleIter s.heap.objs.size l 0 → h'.objs.size = s.heap.objs.size + 2 →
      (∀ b o, s.heap.get? b = some o → h'.get? b = some o) → Q (.ref (s.heap.objs.size + 1)) { s with heap := h' }) :
    wpAny (model prog w) A (call (.type "enumerate") [.ref l]) Q E s := by
  obtain ⟨⟨c, dct, dt, sl⟩, hl, hc, n, hd⟩ := hL
  replace hc : c = .type "tuple" := hc
  replace hd : dt = .seq items n := hd
  subst hc hd
  refine callType_new F.called_enumerate (by decide) (F.typeCall_enumerate_1 _) (F.newCall_enumerate_1 _) (fun obj => F.args_object_init_2 obj _) F.entry_enumerate_new
    (meets_enumerate_newT l items n dct sl) ⟨hl, ?_⟩
  have hz : (s.heap.push { cls := .type "tuple_iterator", data := .fields #[.ref l, .int 0 0] }).objs.size = s.heap.objs.size + 1 := Heap.size_push ..
  show _ ∧ _
  rw [hz]
  have he : IsEnum ((s.heap.push { cls := .type "tuple_iterator", data := .fields #[.ref l, .int 0 0] }).push
      { cls := .type "enumerate", data := .fields #[.none, .bool false, .ref s.heap.objs.size, rawInt 0, .none, .none] }) (s.heap.objs.size + 1) s.heap.objs.size 0 .none := by
    have := Heap.get?_push_size (s.heap.push { cls := .type "tuple_iterator", data := .fields #[.ref l, .int 0 0] })
      (o := { cls := .type "enumerate", data := .fields #[.none, .bool false, .ref s.heap.objs.size, rawInt 0, .none, .none] }) rfl
    rw [hz] at this; exact this
  refine ⟨⟨_, he, rfl⟩, h _ he ⟨_, Heap.get?_push_of_some _ (Heap.get?_push_size _ rfl), rfl, rfl⟩ (by rw [Heap.size_push, hz]) fun b o x => Heap.get?_push_of_some _ (Heap.get?_push_of_some _ x)⟩
end
/-- the tuple at a, each item in a new pair -/
def IteT (K : PySem.W.Frag) (a : Addr) : It :=
  ⟨fun i H => ∃ (xs : List V) (x : V), SqT K H a xs ∧ xs[i]? = some x, fun i H v H' => ∃ T x, v = .ref T ∧ H T = none ∧ H' = upd H T (.tup [.int (i : Nat), x]) ∧ ∀ xs, SqT K H a xs → xs[i]? = some x, fun i H => ∃ xs : List V, SqT K H a xs ∧ xs.length ≤ i⟩
theorem turn_enumT {P : Program} {w : World} {K : PySem.W.Frag} {elts : List Expr} {kk : Nat} {tpos : Pos} (a e it : Addr) (items : Array Value) (hae : a ≠ e) (hai : a ≠ it) :
    Turn P w K (.Tuple elts kk tpos) (IteT K a) [e, it] e (fun i h => (∃ old, IsEnum h e it ((i : Nat) : Int) old) ∧ h.IsTupleIter it a i ∧ e ≠ it) where
  mem := by simp
  obj := fun i h st b hb => by
    obtain ⟨⟨old, he⟩, ⟨o, ho, hc, hd⟩, _⟩ := st
    have e' : b = e ∨ b = it := by simpa using hb
    rcases e' with z | z
    · rw [z]; exact ⟨_, he, fun v q => nomatch q⟩
    · rw [z]; exact ⟨o, ho, fun v q => by rw [hd] at q; cases q⟩
  keep := fun i h h' st k => let ⟨⟨old, he⟩, hi, hne⟩ := st; ⟨⟨old, k e (by simp) _ he⟩, hi.at fun o q => k it (by simp) o q, hne⟩
  item := by
    intro X hP hw hK hc i pins s σ H E I hf st hg
    subst hP hw hK
    obtain ⟨⟨old, he⟩, hit, hne⟩ := st
    obtain ⟨xs, x, hq, hx⟩ := hg
    obtain ⟨its, rv, p, hz⟩ := I.tuple hq
    obtain ⟨u, hu, ru⟩ := rv.get hx
    have hel : e < s.heap.objs.size := Heap.lt_size he
    have hil : it < s.heap.objs.size := by obtain ⟨_, q, _⟩ := hit; exact Heap.lt_size q
    have hlt : i < its.toArray.size := by
      have := (List.getElem?_eq_some_iff.mp hu).1
      simpa using this
    refine wpAny_pyNext_enum_itemD (Draws.tuple (prog := X.prog) (w := X.w) (A := X.A.in1) (I.ok.hd hc) it a hai its.toArray) he ⟨hit, p⟩ hlt hne (by simp; exact ⟨hne, Ne.symm hae⟩) fun x' h' tk hPx ho hit' hT hsz hk => ?_
    have hxx : x' = u := by
      have hPx : its.toArray[i]? = some x' := hPx
      rw [List.getElem?_toArray, hu] at hPx
      exact (Option.some.inj hPx).symm
    subst hxx
    refine ⟨_, rfl, wpAny_letOwnedTupleGo_enum (s := { s with heap := h', toks := tk + 1 }) ho fun h'' he' sb => ?_⟩
    have hT2 : h''.get? s.heap.objs.size = some { cls := .type "tuple", data := .seq #[.int i tk, x'] } := (sb.2 _ (Nat.ne_of_gt hel)).trans hT
    have new : ObjOk X.prog X.w (upd H s.heap.objs.size (.tup [.int (i : Nat), x])) h'' s.heap.objs.size (.tup [.int (i : Nat), x]) :=
      ⟨by show 2 ≤ sizeLine; decide, [.int i tk, x'], .cons ⟨_, rfl⟩ (.cons ru .nil), ⟨_, hT2, rfl, _, rfl⟩⟩
    have I1 : Inv X pins σ (upd H s.heap.objs.size (.tup [.int (i : Nat), x])) { s with heap := h'', toks := tk + 1 } :=
      I.turnedNew (ch := [e, it]) (fun b ob hb q => (sb.2 b (fun z => hb (by simp [z]))).trans (hk b ob (fun z => hb (by simp [z])) (fun z => hb (by simp [z])) q)) hf (Nat.le_refl _) new
    refine ⟨.ref s.heap.objs.size, _, I1, rfl, ⟨_, x, rfl, I.hok.fresh (Nat.le_refl _), rfl, fun ys hy => by rw [I.tuple_inj hy hq]; exact hx⟩, ⟨⟨x', ?_⟩, hit'.1.at fun o q => (sb.2 it (Ne.symm hne)).trans q, hne⟩, fun b hb => ?_⟩
    · have e1 : ((i + 1 : Nat) : Int) = (i : Int) + 1 := by omega
      rw [e1]; exact he'
    · have hb' : b < s.heap.objs.size := by
        have e' : b = e ∨ b = it := by simpa using hb
        rcases e' with z | z
        · rw [z]; exact hel
        · rw [z]; exact hil
      rw [upd_ne (Nat.ne_of_lt hb')]
      exact (hf b hb).1
  done := by
    intro X hP hw hK hc i pins s σ H E I hf st hg
    subst hP hw hK
    obtain ⟨⟨old, he⟩, hit, hne⟩ := st
    obtain ⟨xs, hq, hx⟩ := hg
    obtain ⟨its, rv, p, hz⟩ := I.tuple hq
    obtain ⟨f0, f1, f2, f3, f4, f5⟩ := hf it (by simp)
    have hl := rv.length
    have hT : s.TypeIs (.ref e) "enumerate" := ⟨_, he, rfl⟩
    unfold pyNext
    refine wpAny_bind (wpAny_attempt (wpAny_callSpecial?_slot (name := Str.ofString "__next__") hT F.slot_enumerate_next
      (wpAny_call_entry F.slot_enumerate_next hT F.entry_enumerate_next ?_ (F.args_enumerate_next_1 _))))
    show wpAny _ _ (field (.ref e) 2 >>= _) _ _ _
    refine wpAny_bind (wpAny_field he rfl (x := .ref it) rfl ?_)
    refine wpAny_bind (wpAny_nextOf_tuple_end (I.ok.hd hc) hit p (by simp; omega) fun h' x he' hx' => ?_)
    obtain ⟨o, ho, hc⟩ := hx'
    refine wpAny_bind (wpAny_isInstance (T := "StopIteration") (b := true) ⟨o, ho, hc⟩ isSubtype_stop ?_)
    exact wpAny_pure ⟨rfl, I.turned (t' := s.toks) (fun b o hb q => he' b o hb q) f0 f1 f3 f4 f5⟩
  self := fun A i s Q E st h => let ⟨⟨_, he⟩, _⟩ := st; wpAny_pyIter_enum he h
/-- enumerate(a list | a tuple) -/
def iEnumA (K : PySem.W.Frag) (ta : TA) : TI := fun σ H R => ta σ H fun vs H1 => ∃ a, vs = [.ref a] ∧ ((∃ xs, SqL K H1 a xs ∧ R (Ite K a) H1) ∨ ∃ xs, SqT K H1 a xs ∧ R (IteT K a) H1)
theorem pi_enumA {X : Cx} {e : Expr} {ta : TA} {p pos tpos : Pos} {elts : List Expr} {kk : Nat} (hg : Gl X "enumerate") (hm : X.mg "enumerate" = none) (ha : PA X [e] ta) (hs : starEach [e] X.env = [(false, eval e X.env)]) :
    PI X (.Tuple elts kk tpos) (.Call (.Name "enumerate" p) [e] [] pos) (iEnumA X.K ta) := by
  refine ⟨fun pins s σ H R I h => ?_⟩
  refine Call_ (ld_blt I hg hm boot_enumerate (PyProof.Rows.callWith_type1 (thn (ha.run pos pins s σ H _ I h) fun us s1 ⟨vs, H1, I1, r1, q1⟩ => ?_) hs rfl))
  obtain ⟨a, ex, q⟩ := q1
  subst ex
  cases r1 with
  | cons r rr =>
    cases rr
    cases r
    have fin : ∀ b, b = s1.heap.objs.size + 1 ∨ b = s1.heap.objs.size → FpOk X pins H1 b := fun b e' => by
      have hle : s1.heap.objs.size ≤ b := by
        rcases e' with z | z
        · rw [z]; exact Nat.le_add_right _ _
        · rw [z]; exact Nat.le_refl _
      exact I1.fpOk hle (I1.hok.fresh hle)
    rcases q with ⟨xs, hq, q⟩ | ⟨xs, hq, q⟩
    · obtain ⟨its, rv, p', hz⟩ := I1.list hq
      refine call_enumerate_list p'.isList fun h' he hit hsz hk => wpAny_pyIter_enum he ?_
      have I2 : Inv X pins σ H1 { s1 with heap := h' } := I1.kept (t' := s1.toks) hk
      exact ⟨s1.heap.objs.size + 1, [s1.heap.objs.size + 1, s1.heap.objs.size], _, _, H1, rfl, I2, turn_enum a (s1.heap.objs.size + 1) s1.heap.objs.size, ⟨⟨.none, he⟩, hit, Nat.succ_ne_self _⟩, fun b hb => fin b (by simpa using hb), q⟩
    · obtain ⟨its, rv, p', hz⟩ := I1.tuple hq
      have hal : a < s1.heap.objs.size := by obtain ⟨_, q, _⟩ := p'; exact Heap.lt_size q
      refine call_enumerate_tuple p' fun h' he hit hsz hk => wpAny_pyIter_enum he ?_
      have I2 : Inv X pins σ H1 { s1 with heap := h' } := I1.kept (t' := s1.toks) hk
      exact ⟨s1.heap.objs.size + 1, [s1.heap.objs.size + 1, s1.heap.objs.size], _, _, H1, rfl, I2, turn_enumT a (s1.heap.objs.size + 1) s1.heap.objs.size its.toArray (Nat.ne_of_lt (Nat.lt_succ_of_lt hal)) (Nat.ne_of_lt hal), ⟨⟨.none, he⟩, hit, Nat.succ_ne_self _⟩, fun b hb => fin b (by simpa using hb), q⟩
end SyT
namespace Sy
open PySem L2 PyProof.Rows
section
variable {Γ : Tx} {T : Tab} {C : Ctx} {n m : Nat} {k : Sk} {X Y : Cx} {scope : Scope} {ρ : Env} {Z Z1 : Addr → Prop} {ad ad1 : List Addr} {H H1 : Hp} {a : Expr} {F : Sto → R W} {p pos tpos : Pos}
theorem rpI_enumT {x : V} {ts : List Sy.T} (h : Rep Γ Z1 (strip H1) (.tup ts) x) : ∃ q vs, x = .ref q ∧ SqT Γ.K H1 q vs ∧ rpI Γ Z1 ad1 H1 (enumT 0 ts) (SyT.IteT Γ.K q) := by
  simp only [Rep] at h
  obtain ⟨q, vs, rfl, hq, hr⟩ := h
  refine ⟨q, vs, rfl, sqT_of hq, fun Z ad μ H s x => ?_⟩
  have hq' : (Z q ∧ strip H q = some (.tup vs)) ∨ KTup Γ.K q vs := hq.imp (fun h => ⟨x.zs q h.1, (x.zk q h.1).trans h.2⟩) id
  have hr' := x.reps hr
  rw [enumT_length]
  refine ⟨fun i hi => ⟨vs, vs[i]'(by rw [← hr.length]; exact hi), sqT_of hq', List.getElem?_eq_getElem _⟩, ⟨vs, sqT_of hq', by rw [hr.length]; exact Nat.le_refl _⟩, fun i t v H' e y => ?_⟩
  obtain ⟨q', w, rfl, hn, rfl, y⟩ := y
  obtain ⟨u, e1, rfl⟩ := enumT_get _ _ _ _ e
  exact pair_rep s hn (by simp [Rep]) (reps_at hr' e1 (y vs (sqT_of hq')))
theorem si_enum {elts : List Expr} {kk : Nat} (hK : X.K = Γ.K) (hg : Gl X "enumerate") (hm : X.mg "enumerate" = none) (ha : SE Γ X ρ a F) (hp : plainX a = true) :
    SI Γ X ρ (.Tuple elts kk tpos) (.Call (.Name "enumerate" p) [a] [] pos) fun μ => (F μ).bind fun x μ => (toT x μ).bind fun s μ => (ofO (seqT s) μ).bind fun xs μ => .ok (enumT 0 xs) μ := fun μ => by
  refine PI.imp (SyT.pi_enumA hg hm (pa_cons (ha μ) pa_nil (star_of hp)) (star_of hp)) fun σ H Q ⟨Z, ad, s, l, h⟩ => step s l h fun x μ1 v H1 Z1 ad1 e s1 l1 x1 r1 h1 => ?_
  obtain ⟨t, μ2, Z', s2, x2, r2, h2⟩ := out_toT s1 r1 h1
  cases t <;> first | exact False.elim h2 | skip
  · obtain ⟨q', vs, rfl, hq, w⟩ := rpI_enumT (ad1 := ad1) r2
    exact ⟨q', rfl, .inr ⟨vs, hK ▸ hq, hK ▸ h2.now s2 w⟩⟩
  · obtain ⟨q', vs, rfl, hq, w⟩ := rpI_enum (ad1 := ad1) r2
    exact ⟨q', rfl, .inl ⟨vs, hK ▸ hq, hK ▸ h2.now s2 w⟩⟩
theorem snd_i (S : Snd Γ T C n m) (ok : Okx Γ T C n k X) {it : It} {tg e : Expr} (h : chkI T (m + 1) k it tg e = true) (ρ : Env) : SI Γ X ρ tg e (evI C it ρ) := by
  cases it with
  | seq x =>
    unfold chkI at h
    dsimp only at h
    exact (si_seq ok.hK (S.e k X ok x e h ρ)).of fun μ => by rw [evI]
  | rng1 x =>
    unfold chkI at h
    dsimp only at h
    split at h
    · simp only [Bool.and_eq_true] at h
      obtain ⟨⟨⟨⟨hf, hfr⟩, hg⟩, hp⟩, h1⟩ := h
      cases eqS hf
      exact (si_rng1 (glOf ok hg) (ok.free _ hfr) (S.e k X ok x _ h1 ρ) hp).of fun μ => by rw [evI] <;> rfl
    · cases h
  | rng2 x y =>
    unfold chkI at h
    dsimp only at h
    split at h
    · simp only [Bool.and_eq_true] at h
      obtain ⟨⟨⟨⟨⟨⟨hf, hfr⟩, hg⟩, hp⟩, hp2⟩, h1⟩, h2⟩ := h
      cases eqS hf
      exact (si_rng2 (glOf ok hg) (ok.free _ hfr) (S.e k X ok x _ h1 ρ) (S.e k X ok y _ h2 ρ) hp hp2).of fun μ => by rw [evI] <;> rfl
    · cases h
  | zip x y =>
    unfold chkI at h
    dsimp only at h
    split at h
    · simp only [Bool.and_eq_true] at h
      obtain ⟨⟨⟨⟨⟨⟨hf, hfr⟩, hg⟩, hp⟩, hp2⟩, h1⟩, h2⟩ := h
      cases eqS hf
      exact (si_zip ok.hK (glOf ok hg) (ok.free _ hfr) (S.e k X ok x _ h1 ρ) (S.e k X ok y _ h2 ρ) hp hp2).of fun μ => by rw [evI] <;> rfl
    · cases h
  | items x =>
    unfold chkI at h
    dsimp only at h
    split at h
    · simp only [Bool.and_eq_true] at h
      obtain ⟨⟨⟨hf, hline⟩, hb⟩, h1⟩ := h
      cases eqS hf
      exact (si_items (S.e k X ok x _ h1 ρ) hb hline).of fun μ => by rw [evI] <;> rfl
    · cases h
  | enum x =>
    unfold chkI at h
    dsimp only at h
    split at h
    · simp only [Bool.and_eq_true] at h
      obtain ⟨⟨⟨⟨hf, hfr⟩, hg⟩, hp⟩, h1⟩ := h
      cases eqS hf
      exact (si_enum ok.hK (glOf ok hg) (ok.free _ hfr) (S.e k X ok x _ h1 ρ) hp).of fun μ => by rw [evI]
    · cases h
theorem sndS (S : Snd Γ T C n m) : Snd Γ T C n (m + 1) :=
  ⟨fun _ _ ok _ _ h ρ => snd_e S ok h ρ, fun _ _ ok _ _ h ρ => snd_p S ok h ρ, fun _ _ ok _ _ h ρ => snd_t S ok h ρ, fun _ _ ok _ _ _ h ρ => snd_i S ok h ρ, fun _ _ ok _ _ h => snd_g S ok h⟩
theorem snd : ∀ m, Snd Γ T C n m
  | 0 => snd0
  | m + 1 => sndS (snd m)
end
end Sy
end

section
set_option Elab.async false
set_option linter.all false
set_option maxRecDepth 100000
/-! SyZ: the look at statements; a def keeps its promise. -/
namespace Sy
open PySem L2 PyProof.Rows
def notTup : Expr → Bool
  | .Tuple _ _ _ => false
  | _ => true
def tgX (v : Expr) : Expr → Bool
  | .Subscript _ _ _ => true
  | .Tuple _ _ _ => notTup v
  | _ => false
def chkEn (t i : Expr) (p : Str → Expr → Bool) : Bool := match t, i with
  | .Tuple _ _ _, .Call (.Name f _) [l] [] _ => p f l
  | _, _ => false
theorem chkEn_ok {t i : Expr} {p : Str → Expr → Bool} (h : chkEn t i p = true) : ∃ elts kk tpos f pp l cpos, t = .Tuple elts kk tpos ∧ i = .Call (.Name f pp) [l] [] cpos ∧ p f l = true := by
  unfold chkEn at h
  split at h
  · exact ⟨_, _, _, _, _, _, _, rfl, rfl, h⟩
  · cases h
section
variable (T : Tab)
def chkS : Nat → Sk → Sm → Stmt → Bool
  | 0, _, _, _ => false
  | n + 1, k, s, st => match s with
    | .never => true
    | .asg tg e => match st with
      | .Assign [t] v pos => match tg with
        | .nm i => match t with
          | .Name y p => decide (k.N[i]? = some y) && locB k.sc y && (k.fn y || decide (k.sc.names.lookup y = some .local)) && chkE T (n + 1) k e v && (!(swB v y p k.sc) || (match e with | .comp _ _ _ _ _ _ => decide (k.sc.names.lookup y = some .local) | _ => false))
          | _ => false
        | tg => chkE T n k e v && chkG T n k tg t && !(compX v) && tgX v t
      | _ => false
    | .par tgs es => match st with
      | .Assign [.Tuple ts _ _] (.Tuple vs _ _) pos => zipAll (chkE T n k) es vs && plainsX vs && decide (es.length ≤ 100) && decide (vs.length = ts.length) && (match swS ts vs k.sc with
        | some none => zipAll (chkG T n k) tgs ts && nosX ts
        | some (some _) => (match tgs, ts, vs with
          | [.nm i, .nm j], [.Name x _, .Name y _], [_, _] => decide (swS ts vs k.sc = some (some [x, y])) && decide (k.N[i]? = some x) && decide (k.N[j]? = some y) && decide (i ≠ j) && decide (k.sc.names.lookup x = some .local) && decide (k.sc.names.lookup y = some .local)
          | _, _, _ => false)
        | none => false)
      | _ => false
    | .atr al a e => match st with
      | .Assign [.Attribute o f _] v _ => alOkT T f al && chkE T n k e v && chkE T n k a o
      | _ => false
    | .app a e => match st with
      | .Expr (.Call (.Attribute l x apos) [r] [] cpos) _ => (x == ("append" : Str)) && (apos.endLine == cpos.line) && baseX l && plainX r && chkE T n k a l && chkE T n k e r
      | _ => false
    | .ex e => match st with
      | .Expr v _ => !(compX v) && chkE T n k e v
      | _ => false
    | .ret e => match st with
      | .Return (some v) _ => chkE T n k e v
      | _ => false
    | .ret0 => match st with
      | .Return none _ => true
      | _ => false
    | .ife c a b => match st with
      | .If c' a' b' _ => chkT T n k c c' && zipAll (chkS n k) a a' && zipAll (chkS n k) b b'
      | _ => false
    | .whl _ c b => match st with
      | .While c' b' [] _ => chkT T n k c c' && zipAll (chkS n k) b b'
      | _ => false
    | .for_ _ it tg b => match st with
      | .For t i b' [] _ => plainX i && chkI T n k it t i && chkG T n k tg t && zipAll (chkS n k) b b'
      | _ => false
    | .forg _ f es tg b => match st with
      | .For t (.Call (.Name x _) args [] _) b' [] _ => (match T.gens[f]? with | some d => decide (d.glob = x) | none => false) && glB k.sc x && okN x && !es.isEmpty && zipAll (chkE T n k) es args && plainsX args && chkG T n k tg t && zipAll (chkS n k) b b'
      | _ => false
    | .forc _ en e tg b => match st with
      | .For t i b' [] _ => plainX i && chkG T n k tg t && zipAll (chkS n k) b b' && (match en with
        | false => chkE T n k e i
        | true => chkEn t i fun f l => (f == ("enumerate" : Str)) && T.free.contains f && glB k.sc f && plainX l && chkE T n k e l)
      | _ => false
    | .brk => match st with
      | .Break _ => true
      | _ => false
    | .cnt => match st with
      | .Continue _ => true
      | _ => false
    | .pas => match st with
      | .Pass _ => true
      | _ => false
end
section
variable {Γ : Tx} {T : Tab} {C : Ctx} {n m : Nat} {k : Sk} {X Y : Cx} {st : Stmt} {sts : List Stmt}
theorem SS.of {F G : Env → Sto → O} (h : SS Γ X st F) (q : ∀ ρ μ, F ρ μ = G ρ μ) : SS Γ X st G := fun ρ μ => q ρ μ ▸ h ρ μ
theorem SSs.of {F G : Env → Sto → O} (h : SSs Γ X sts F) (q : ∀ ρ μ, F ρ μ = G ρ μ) : SSs Γ X sts G := fun ρ μ => q ρ μ ▸ h ρ μ
theorem snd_ss (h : ∀ s st, chkS T m k s st = true → SS Γ X st (evS C s)) : ∀ {ss : List Sm} {sts : List Stmt}, zipAll (chkS T m k) ss sts = true → SSs Γ X sts (evSs C ss)
  | [], [], _ => sss_nil.of fun ρ μ => by rw [evSs]
  | s :: ss, st :: sts, hz => by
    have hz : chkS T m k s st = true ∧ zipAll (chkS T m k) ss sts = true := by simpa [zipAll] using hz
    exact (sss_cons (h s st hz.1) (snd_ss h hz.2)).of fun ρ μ => by rw [evSs]
  | [], _ :: _, hz => by cases hz
  | _ :: _, [], hz => by cases hz
theorem swaps_attr {v o : Expr} {f : Str} {p : Pos} {l : Nat} {env : PySem.Env} : swapsWith v (some (.Attribute o f p)) l env = pure false := by
  cases v <;> rfl
theorem swapped_none {v t : Expr} {env : PySem.Env} (h : tgX v t = true) : swappedStores [t] v env = pure none := by
  cases t <;> first | rfl | cases h | skip
  cases v <;> first | rfl | cases h
theorem tg_nm {v t : Expr} (h : tgX v t = true) : isNm t = true := by
  cases t <;> first | rfl | cases h
theorem evL_len : ∀ (xs : List Ex) (ρ : Env) (μ : Sto) (ws : List W) (μ' : Sto), evL C xs ρ μ = .ok ws μ' → ws.length = xs.length
  | [], ρ, μ, ws, μ', h => by rw [evL] at h; cases h; rfl
  | x :: xs, ρ, μ, ws, μ', h => by
    rw [evL] at h
    obtain ⟨w, μ1, _, h⟩ := R.bind_ok h
    obtain ⟨ws', μ2, q, h⟩ := R.bind_ok h
    cases h
    rw [List.length_cons, List.length_cons, evL_len xs ρ μ1 ws' _ q]
theorem par2_eq (i j : Nat) (ws : List W) (ρ : Env) (μ : Sto) : (match ws with
      | [w, w'] => if i < ρ.length ∧ j < ρ.length then R.ok ((ρ.set i (some w)).set j (some w')) μ else .bad
      | _ => .bad) = asgs C [.nm i, .nm j] ws ρ μ := by
  match ws with
  | [] => simp [asgs]
  | [w] =>
    by_cases hi : i < ρ.length <;> simp [asgs, asg, hi, R.bind]
  | [w, w'] =>
    by_cases hi : i < ρ.length <;> by_cases hj : j < ρ.length <;> simp [asgs, asg, hi, hj, R.bind]
  | w :: w' :: w'' :: ws =>
    by_cases hi : i < ρ.length <;> by_cases hj : j < ρ.length <;> simp [asgs, asg, hi, hj, R.bind]
theorem snd_s : ∀ (m : Nat) (k : Sk) (X : Cx), Okx Γ T C n k X → ∀ s st, chkS T m k s st = true → SS Γ X st (evS C s)
  | 0, _, _, _, _, _, h => by cases h
  | m + 1, k, X, ok, s, st, h => by
    have S := snd (Γ := Γ) (T := T) (C := C) (n := n) m
    have ih := snd_s m k X ok
    have hx := ok.hx
    cases s with
    | never => exact ss_never.of fun ρ μ => by rw [evS]
    | asg tg e =>
      unfold chkS at h
      dsimp only at h
      split at h
      · rename_i t v pos
        split at h
        · rename_i i
          split at h
          · rename_i y p
            simp only [Bool.and_eq_true, Bool.or_eq_true, decide_eq_true_eq, Bool.not_eq_true'] at h
            obtain ⟨⟨⟨⟨h1, h2⟩, h3⟩, h4⟩, h5⟩ := h
            have hi : X.N[i]? = some y := by rw [ok.eN]; exact h1
            have hf : X.fn y = true ∨ X.env.scope.names.lookup y = some .local := h3.imp (ok.eF _) (fun z => by rw [ok.eS]; exact z)
            have fin : ∀ ρ μ, ((evE C e ρ μ).out fun w μ => (if i < ρ.length then R.ok (ρ.set i (some w)) μ else .bad).out fun ρ μ => .nx ρ μ) = evS C (.asg (.nm i) e) ρ μ := fun ρ μ => by
              rw [evS]
              congr 1
              funext w μ
              rw [asg]
            cases hsw : swB v y p k.sc with
            | false => exact (ss_asgN ok.hN hi (locOf ok h2) hf (fun ρ => snd_e S ok h4 ρ) (by rw [swB_ok ok.eK, ok.eS, hsw])).of fin
            | true =>
              rw [hsw] at h5
              have h5 := h5.resolve_left (by simp)
              split at h5
              · have h5 := of_decide_eq_true h5
                exact (ss_asgC hi (by rw [ok.eS]; exact h5) (fun ρ => (snd_lc S ok h4 ρ).2) (by rw [swB_ok ok.eK, ok.eS, hsw])).of fin
              · cases h5
          · cases h
        · simp only [Bool.and_eq_true, Bool.not_eq_true'] at h
          obtain ⟨⟨⟨h1, h2⟩, h3⟩, h4⟩ := h
          exact (ss_asgG (fun ρ => S.e k X ok e v h1 ρ) (S.g k X ok tg t h2) (swaps_of h3) (swapped_none h4) (tg_nm h4)).of fun ρ μ => by rw [evS]
      · cases h
    | par tgs es =>
      unfold chkS at h
      dsimp only at h
      split at h
      · rename_i ts k1 p1 vs k2 p2 pos
        simp only [Bool.and_eq_true, decide_eq_true_eq] at h
        obtain ⟨⟨⟨⟨h1, h2⟩, h3⟩, h4⟩, h5⟩ := h
        have hl := fun ρ => snd_L S ok h1 h2 ρ
        have hlen := zipAll_len h1
        split at h5
        · rename_i hsw
          simp only [Bool.and_eq_true] at h5
          exact (ss_parG ok.hc hl (snd_Gs S ok h5.1 h5.2) h5.2 h4 (by rw [← hlen]; exact Nat.le_trans h3 (by decide)) (fun ρ μ ws μ' q => by rw [evL_len es ρ μ ws μ' q, hlen]) (by cases ts <;> rfl) (swS_ok ok.eK (by rw [ok.eS]; exact hsw))).of fun ρ μ => by rw [evS]; rfl
        · rename_i nm hsw
          split at h5
          · rename_i i j x px y py a b
            simp only [Bool.and_eq_true, decide_eq_true_eq] at h5
            obtain ⟨⟨⟨⟨⟨g1, g2⟩, g3⟩, g4⟩, g5⟩, g6⟩ := h5
            refine (ss_par2 ok.hc ok.hN (by rw [ok.eN]; exact g2) (by rw [ok.eN]; exact g3) g4 (by rw [ok.eS]; exact g5) (by rw [ok.eS]; exact g6) hl (swS_ok ok.eK (by rw [ok.eS]; exact g1)) rfl).of fun ρ μ => ?_
            rw [evS]
            unfold parF
            cases q : evL C es ρ μ with
            | exc _ _ => rfl
            | bad => rfl
            | ok ws μ1 =>
              show (R.out _ _ : O) = R.out _ _
              congr 1
              funext ws' μ'
              exact congrArg (fun r : R Env => r.out fun ρ μ => O.nx ρ μ) (par2_eq (C := C) i j ws' ρ μ')
          · cases h5
        · cases h5
      · cases h
    | atr al a e =>
      unfold chkS at h
      dsimp only at h
      split at h
      · simp only [Bool.and_eq_true] at h
        obtain ⟨⟨h1, h2⟩, h3⟩ := h
        exact (ss_atr ok.hK ok.B ok.A (alOf ok h1) (fun ρ => S.e k X ok e _ h2 ρ) (fun ρ => S.e k X ok a _ h3 ρ) swaps_attr).of fun ρ μ => by rw [evS] <;> rfl
      · cases h
    | app a e =>
      unfold chkS at h
      dsimp only at h
      split at h
      · simp only [Bool.and_eq_true] at h
        obtain ⟨⟨⟨⟨⟨hf, hline⟩, hb⟩, hp⟩, h1⟩, h2⟩ := h
        cases eqS hf
        exact (ss_app ok.hK (fun ρ => S.e k X ok a _ h1 ρ) (fun ρ => S.e k X ok e _ h2 ρ) hb hp hline).of fun ρ μ => by rw [evS] <;> rfl
      · cases h
    | ex e =>
      unfold chkS at h
      dsimp only at h
      split at h
      · simp only [Bool.and_eq_true, Bool.not_eq_true'] at h
        exact (ss_ex (fun ρ => S.e k X ok e _ h.2 ρ) h.1).of fun ρ μ => by rw [evS]
      · cases h
    | ret e =>
      unfold chkS at h
      dsimp only at h
      split at h
      · exact (ss_ret (fun ρ => S.e k X ok e _ h ρ)).of fun ρ μ => by rw [evS]
      · cases h
    | ret0 =>
      unfold chkS at h
      dsimp only at h
      split at h
      · exact ss_ret0.of fun ρ μ => by rw [evS]
      · cases h
    | ife c a b =>
      unfold chkS at h
      dsimp only at h
      split at h
      · simp only [Bool.and_eq_true] at h
        obtain ⟨⟨h1, h2⟩, h3⟩ := h
        exact (ss_ife (fun ρ => S.t k X ok c _ h1 ρ) (snd_ss ih h2) (snd_ss ih h3)).of fun ρ μ => by rw [evS] <;> rfl
      · cases h
    | whl dr c b =>
      unfold chkS at h
      dsimp only at h
      split at h
      · simp only [Bool.and_eq_true] at h
        exact (ss_whl (dr := dr) (fuel := C.fuel) hx (fun ρ => S.t k X ok c _ h.1 ρ) (snd_ss ih h.2)).of fun ρ μ => by rw [evS]
      · cases h
    | for_ dr it tg b =>
      unfold chkS at h
      dsimp only at h
      split at h
      · simp only [Bool.and_eq_true] at h
        obtain ⟨⟨⟨hp, h1⟩, h2⟩, h3⟩ := h
        exact (ss_for (dr := dr) hx ok.hc (fun ρ => S.i k X ok it _ _ h1 ρ) (S.g k X ok tg _ h2) (snd_ss ih h3) (folded_of hp)).of fun ρ μ => by rw [evS]
      · cases h
    | forg dr f es tg b =>
      unfold chkS at h
      dsimp only at h
      split at h
      · rename_i t x p args cpos b' pos
        simp only [Bool.and_eq_true] at h
        obtain ⟨⟨⟨⟨⟨⟨⟨hd, hg⟩, hN⟩, hne⟩, h1⟩, h2⟩, h3⟩, h4⟩ := h
        obtain ⟨k1, _, _⟩ := okN_of hN
        split at hd
        · rename_i d hq
          have hd := of_decide_eq_true hd
          subst hd
          cases es with
          | nil => cases hne
          | cons e0 es =>
            cases args with
            | nil => cases h1
            | cons a0 args =>
              rcases ok.gno f d hq with hno | ⟨kk, fa, fdd, ps, hkk, G, hb, hm, hkeep⟩
              · refine fun ρ μ => ⟨fun _ _ _ _ _ _ ⟨_, _, _, _, h⟩ => ?_⟩
                rw [evS] at h
                cases q : evL C (e0 :: es) ρ μ with
                | exc _ _ => rw [q] at h; exact h.elim
                | bad => rw [q] at h; exact h.elim
                | ok ws μ1 =>
                  rw [q] at h
                  cases q2 : toTs ws μ1 with
                  | exc _ _ => simp only [R.out, q2, OutS] at h
                  | bad => simp only [R.out, q2, OutS] at h
                  | ok ts μ2 => simp only [R.out, q2, hno, OutS] at h
              · exact (Sg.ss_forg (dr := dr) ok.nox ok.hc G (ok.hr.mono (by omega)) (glOf ok hg) hm hkeep hb (fun ρ => snd_L S ok h1 h2 ρ) h2 k1 (S.g k X ok tg _ h3) (snd_ss ih h4) (folded_of rfl)).of fun ρ μ => by rw [evS] <;> rfl
        · cases hd
      · cases h
    | forc dr en e tg b =>
      unfold chkS at h
      dsimp only at h
      split at h
      · rename_i t i b' pos
        simp only [Bool.and_eq_true] at h
        obtain ⟨⟨⟨hp, h2⟩, h3⟩, h4⟩ := h
        have fin : ∀ ρ μ, ((evE C e ρ μ).out fun w μ => match w with
            | .loc n => forC (fun x ρ μ => (asg C tg (.t x) ρ μ).out fun ρ μ => evSs C b ρ μ) dr en n C.fuel 0 ρ μ
            | .t _ => .bad) = evS C (.forc dr en e tg b) ρ μ := fun ρ μ => by
          rw [evS] <;> rfl
        cases en with
        | false =>
          have h4 : chkE T m k e i = true := h4
          refine (ss_forc (dr := dr) (fun a => live_l) ok.hK hx ok.hc (fun ρ μ => PI.imp (pi_seq (S.e k X ok e i h4 ρ μ)) fun σ H Q hq => ?_) (S.g k X ok tg _ h2) (snd_ss ih h3) (folded_of hp)).of fin
          obtain ⟨Z, ad, s, l, hq⟩ := hq
          refine ⟨Z, ad, s, l, hq.mono fun v H1 ⟨a, vs, e1, e2, e3⟩ => ⟨a, e1, .inl ⟨vs, e2, ok.hK ▸ e3⟩⟩⟩
        | true =>
          have h4 : chkEn t i (fun f l => (f == ("enumerate" : Str)) && T.free.contains f && glB k.sc f && plainX l && chkE T m k e l) = true := h4
          obtain ⟨elts, kk, tpos, f, pp, l, cpos, rfl, rfl, h6⟩ := chkEn_ok h4
          simp only [Bool.and_eq_true] at h6
          obtain ⟨⟨⟨⟨hf, hfr⟩, hg⟩, hpl⟩, h5⟩ := h6
          cases eqS hf
          refine (ss_forc (dr := dr) (fun a => live_e) ok.hK hx ok.hc (fun ρ μ => PI.imp (pi_enum (glOf ok hg) (ok.free _ hfr) (pa_cons (S.e k X ok e l h5 ρ μ) pa_nil (star_of hpl)) (star_of hpl)) fun σ H Q hq => ?_) (S.g k X ok tg _ h2) (snd_ss ih h3) (folded_of hp)).of fin
          obtain ⟨Z, ad, s, l, hq⟩ := hq
          refine ⟨Z, ad, s, l, hq.mono fun v H1 ⟨a, vs, e1, e2, e3⟩ => ?_⟩
          subst e1
          exact ⟨a, vs, rfl, e2, ok.hK ▸ e3⟩
      · cases h
    | brk =>
      unfold chkS at h
      dsimp only at h
      split at h
      · exact ss_brk.of fun ρ μ => by rw [evS]
      · cases h
    | cnt =>
      unfold chkS at h
      dsimp only at h
      split at h
      · exact ss_cnt.of fun ρ μ => by rw [evS]
      · cases h
    | pas =>
      unfold chkS at h
      dsimp only at h
      split at h
      · exact ss_pas.of fun ρ μ => by rw [evS]
      · cases h
/-! ### generators' bodies -/
section
variable (T : Tab)
def chkGm : Nat → Sk → Gm → Stmt → Bool
  | 0, _, _, _ => false
  | n + 1, k, s, st => match s with
    | .yld e => match st with
      | .Expr (.Yield (some v) _) _ => chkE T n k e v
      | _ => false
    | .ife c a b => match st with
      | .If c' a' b' _ => chkT T n k c c' && zipAll (chkGm n k) a a' && zipAll (chkGm n k) b b'
      | _ => false
    | .for_ _ it tg b => match st with
      | .For t i b' [] _ => plainX i && chkI T n k it t i && chkG T n k tg t && zipAll (chkGm n k) b b'
      | _ => false
    | .pl s => chkS T n k s st
end
/-- what a generator's context must be -/
structure Gcx (X : Cx) : Prop where
  cells : X.env.cells = []
  ex : X.ex = []
  co : X.env.scope.isCoroutine = false
theorem okx_reb (ok : Okx Γ T C n k X) (m : Nat) (s : Shared) (H : Hp) : Okx Γ T C n k (Sg.reb X m s H) :=
  ⟨ok.hK, ok.hc, ok.hN, ok.eN, ok.eS, ok.eF, ok.eK, ok.hu, ok.hr, ok.nox, ok.tn, ok.ta, ok.B, ok.A, ok.free, ok.gcd, ok.glb, ok.cls, ok.fnv, ok.fno, ok.gno⟩
theorem ZS.of {F G : Env → Sy.GO} (h : Sg.ZS Γ X st F) (q : ∀ ρ, F ρ = G ρ) : Sg.ZS Γ X st G := by
  have : F = G := funext q
  exact this ▸ h
theorem ZSs.of {F G : Env → Sy.GO} (h : Sg.ZSs Γ X sts F) (q : ∀ ρ, F ρ = G ρ) : Sg.ZSs Γ X sts G := by
  have : F = G := funext q
  exact this ▸ h
theorem snd_gs (h : ∀ s st, chkGm T m k s st = true → Sg.ZS Γ X st (evG C s)) : ∀ {ss : List Gm} {sts : List Stmt}, zipAll (chkGm T m k) ss sts = true → Sg.ZSs Γ X sts (evGs C ss)
  | [], [], _ => ZSs.of Sg.zss_nil fun ρ => by rw [evGs]
  | s :: ss, st :: sts, hz => by
    have hz : chkGm T m k s st = true ∧ zipAll (chkGm T m k) ss sts = true := by simpa [zipAll] using hz
    exact ZSs.of (Sg.zss_cons (h s st hz.1) (snd_gs h hz.2)) fun ρ => by rw [evGs]
  | [], _ :: _, hz => by cases hz
  | _ :: _, [], hz => by cases hz
theorem snd_gm : ∀ (m : Nat) (k : Sk) (X : Cx), Okx Γ T C n k X → Gcx X → ∀ s st, chkGm T m k s st = true → Sg.ZS Γ X st (evG C s)
  | 0, _, _, _, _, _, _, h => by cases h
  | m + 1, k, X, ok, gc, s, st, h => by
    have S := snd (Γ := Γ) (T := T) (C := C) (n := n) m
    have ih := snd_gm m k X ok gc
    cases s with
    | yld e =>
      unfold chkGm at h
      dsimp only at h
      split at h
      · refine ZS.of (Sg.zs_yld ok.nox gc.cells (fun s H ρ => S.e k _ (okx_reb ok _ s H) e _ h ρ) gc.co ?_) fun ρ => by rw [evG]
        unfold interactive
        rw [ok.eK]; rfl
      · cases h
    | ife c a b =>
      unfold chkGm at h
      dsimp only at h
      split at h
      · simp only [Bool.and_eq_true] at h
        obtain ⟨⟨h1, h2⟩, h3⟩ := h
        exact ZS.of (Sg.zs_if ok.nox (fun s H ρ => S.t k _ (okx_reb ok _ s H) c _ h1 ρ) (snd_gs ih h2) (snd_gs ih h3)) fun ρ => by rw [evG] <;> rfl
      · cases h
    | for_ dr it tg b =>
      unfold chkGm at h
      dsimp only at h
      split at h
      · simp only [Bool.and_eq_true] at h
        obtain ⟨⟨⟨hp, h1⟩, h2⟩, h3⟩ := h
        exact ZS.of (Sg.zs_for (dr := dr) (BF := fun x ρ => (asg C tg (.t x) ρ []).out0 fun ρ => evGs C b ρ) (fun _ _ => rfl) ok.nox gc.ex ok.hc (fun s H ρ => S.i k _ (okx_reb ok _ s H) it _ _ h1 ρ) (fun s H => S.g k _ (okx_reb ok _ s H) tg _ h2) (snd_gs ih h3) (folded_of hp)) fun ρ => by rw [evG]
      · cases h
    | pl s =>
      unfold chkGm at h
      exact ZS.of (Sg.zs_pl ok.nox fun s0 H => snd_s m k _ (okx_reb ok _ s0 H) s st h) fun ρ => by rw [evG]
/-! ### the defs -/
/-- what is known of the program, without the callees -/
structure Mdl (Γ : Tx) (T : Tab) (G : List Sy.T) (K : PySem.W.Frag) (mg : Str → Option Value) : Prop where
  hK : K = Γ.K
  tn : Γ.n = T.at_.length
  ta : ∀ c, Γ.at_ c = T.atL c
  B : Fct Γ
  A : FctA Γ
  free : ∀ x, T.free.contains x = true → mg x = none
  gcd : ∀ x, T.gcd.contains x = true → mg x = some (.builtin "math.gcd")
  glb : ∀ (j : Nat) (x : Str) (t : Sy.T), T.glb[j]? = some (x, t) → G[j]? = some t ∧ ∃ u v, mg x = some u ∧ RelV v u ∧ Rep Γ (fun _ => False) (fun _ => none) t v
  cls : ∀ (c : Nat) (x : Str), T.cls[c]? = some x → mg x = some (.ref (Γ.C c))
  fns : ∀ (j : Nat) (d : FnT), T.fns[j]? = some d → d.star.isNone = true → ∃ (fa : Addr) (fdd : FuncData) (x qual : Str) (params : Arguments) (dvs : List V) (kws : List (Str × V)), FunD K x qual params d.body d.sc dvs kws fa fdd ∧ Binds K fdd (d.N.take d.fd.np) [] ∧
    (∀ x, d.glob = some x → mg x = some (.ref fa) ∧ PySem.W.keepIn K (.ref fa) = true) ∧ (∀ c m, d.meth = some (c, m) → Meth K (Γ.C c) m fa) ∧ (∀ c, d.ini = some c → Mk K (Γ.C c) fa)
  gns : ∀ (j : Nat) (d : GnT), T.gens[j]? = some d → ∃ (fa : Addr) (fdd : FuncData) (x qual : Str) (params : Arguments) (dvs : List V) (kws : List (Str × V)), FunD K x qual params d.body d.sc dvs kws fa fdd ∧ Binds K fdd (d.N.take d.gd.np) [] ∧ mg d.glob = some (.ref fa) ∧ PySem.W.keepIn K (.ref fa) = true
  fnv : ∀ (j : Nat) (d : FnT) (kn : Str), T.fns[j]? = some d → d.star = some kn → ∃ (fa : Addr) (fdd : FuncData) (x qual : Str) (a v b : Arg) (kds : List (Option Expr)) (kws : List (Str × V)), FunD K x qual ⟨[], [a], some v, [b], kds, none, []⟩ d.body d.sc [] kws fa fdd ∧ b.arg = kn ∧ (b.arg == a.arg) = false ∧ d.N.take d.fd.np = [a.arg, b.arg, v.arg] ∧ ∀ c, d.ini = some c → Mk K (Γ.C c) fa
/-- the look at a def -/
def chkD (T : Tab) (fuel : Nat) (d : FnT) : Bool := zipAll (chkS T fuel ⟨d.N, d.sc, fun _ => true⟩) d.fd.body d.body && C8.scC d.N (d.N.take d.fd.np) d.sc && decide (d.N.length = d.fd.nl) && decide (d.fd.np ≤ d.fd.nl) && decide (d.sc.kind = .function)
def chkDG (T : Tab) (fuel : Nat) (d : GnT) : Bool := zipAll (chkGm T fuel ⟨d.N, d.sc, fun _ => true⟩) d.gd.body d.body && Sg.scG d.N (d.N.take d.gd.np) d.sc && decide (d.N.length = d.gd.nl) && decide (d.gd.np ≤ d.gd.nl)
def chkTab (T : Tab) (fuel : Nat) : Bool := T.fns.all (chkD T fuel) && T.gens.all (chkDG T fuel)
def Tab.get (T : Tab) (j : Nat) : Option FD := (T.fns[j]?).map (·.fd)
def Tab.getG (T : Tab) (j : Nat) : Option GD := (T.gens[j]?).map (·.gd)
/-- the level -/
def Tab.lv (T : Tab) (F : Nat) (G : List Sy.T) (n : Nat) : Ctx := Sy.lv T.get T.getG F G n
theorem Tab.lv_glb (T : Tab) (F : Nat) (G : List Sy.T) (n : Nat) : (T.lv F G n).glb = G := Sy.lv_glb ..
theorem Tab.lv_call (T : Tab) (F : Nat) (G : List Sy.T) (n j : Nat) {d : FnT} (hd : T.fns[j]? = some d) : (T.lv F G (n + 1)).call j = runD (T.lv F G n) d.fd := by
  funext as
  unfold Tab.lv
  rw [Sy.lv_call]
  unfold Tab.get
  rw [hd]
  rfl
theorem callN_np {F : Nat} {G : List Sy.T} {n j : Nat} {d : FnT} {as : List Ar} (hd : T.fns[j]? = some d) (h : (T.lv F G n).call j as ≠ .bad) : as.length = d.fd.np := by
  cases n with
  | zero => exact absurd rfl h
  | succ n =>
    rw [T.lv_call F G n j hd] at h
    unfold runD at h
    by_cases q : as.length = d.fd.np
    · exact q
    · rw [if_neg q] at h; exact absurd rfl h
theorem np_take {N : List Str} {np nl : Nat} (h1 : N.length = nl) (h2 : np ≤ nl) : (N.take np).length = np := by
  rw [List.length_take]
  omega
section
variable {P : Program} {w : World} {K : PySem.W.Frag} {mg : Str → Option Value} {base : Heap} {F : Nat} {G : List Sy.T}
/-- the defs keep their promises, n calls deep -/
def PFn (Γ : Tx) (T : Tab) (P : Program) (w : World) (K : PySem.W.Frag) (mg : Str → Option Value) (base : Heap) (F : Nat) (G : List Sy.T) (n : Nat) : Prop :=
    (∀ (j : Nat) (d : FnT), T.fns[j]? = some d → d.star.isNone = true → ∀ {x qual : Str} {params : Arguments} {dvs : List V} {kws : List (Str × V)} {fa : Addr} {fdd : FuncData}, FunD K x qual params d.body d.sc dvs kws fa fdd → FnOk P w K mg base C8.CX0 (2 * n) fa fdd (d.N.take d.fd.np) (spC Γ ((T.lv F G n).call j) d.fd.np)) ∧
    (∀ (j : Nat) (d : FnT), T.fns[j]? = some d → ∀ {x qual : Str} {a v b : Arg} {kds : List (Option Expr)} {kws : List (Str × V)} {fa : Addr} {fdd : FuncData}, FunD K x qual ⟨[], [a], some v, [b], kds, none, []⟩ d.body d.sc [] kws fa fdd → (b.arg == a.arg) = false → d.N.take d.fd.np = [a.arg, b.arg, v.arg] → SyV.FnV P w K mg base (2 * n) fa b.arg (spC Γ ((T.lv F G n).call j) d.fd.np))
def GNo (Γ : Tx) (T : Tab) (C : Ctx) (P : Program) (w : World) (K : PySem.W.Frag) (mg : Str → Option Value) (base : Heap) (n : Nat) : Prop :=
  ∀ (j : Nat) (d : GnT), T.gens[j]? = some d → (∀ ts, C.gen j ts = none) ∨ ∃ (kk : Nat) (fa : Addr) (fdd : FuncData) (ps : List Str), kk + 3 ≤ 2 * n + 1 ∧ Sg.GFnS Γ P w K mg base kk fa fdd ps (C.gen j) ∧ Binds K fdd ps [] ∧ mg d.glob = some (.ref fa) ∧ PySem.W.keepIn K (.ref fa) = true
theorem okx_of (M : Mdl Γ T G K mg) {n : Nat} {N : List Str} {sc : Scope} {qual : Str} {fa : Addr} {cdv : Value} {A : Around} {outer : List PySem.Env} {s : Shared} {H : Hp} {E : XK}
    (hr : Room (2 * n + 1) (A.deeper (envOfC qual sc s.heap.objs.size fa cdv))) (nd : N.Nodup) (h5 : sc.kind = .function) (pf : PFn Γ T P w K mg base F G n) (gno : GNo Γ T (T.lv F G n) P w K mg base n) :
    Okx Γ T (T.lv F G n) n ⟨N, sc, fun _ => true⟩ (cxOf C8.CX0 P w K mg base N qual sc fa cdv A outer s H E).nox :=
  ⟨M.hK, rfl, nd, rfl, rfl, fun _ _ => rfl, h5, hr.units, hr, rfl, M.tn, M.ta, M.B, M.A, M.free, M.gcd, fun j x t h => ⟨by rw [T.lv_glb]; exact (M.glb j x t h).1, (M.glb j x t h).2⟩, M.cls, fun j' d' kn hd' hs => by
    obtain ⟨fa', fdd', x', q', a, v, b, kds, kw', FD', hk, hab, htk, g⟩ := M.fnv j' d' kn hd' hs
    subst hk
    exact ⟨fun as q => callN_np hd' q, fa', pf.2 j' d' hd' FD' hab htk, g⟩, fun j' d' hd' hs => by
    obtain ⟨fa', fdd', x', q', p', dv', kw', FD', hb', g1, g2, g3⟩ := M.fns j' d' hd' hs
    exact ⟨fun as q => callN_np hd' q, fa', fdd', _, pf.1 j' d' hd' hs FD', hb', g1, g2, g3⟩, gno⟩
/-- .. a generator's body: it has no generators of its own -/
theorem okx_g {n : Nat} {k : Sk} {N : List Str} {sc : Scope} {qual : Str} {fa : Addr} {cdv : Value} {A : Around} {outer : List PySem.Env} {s : Shared} {H : Hp} {E : XK} {pn : Sg.Pin}
    (ok : Okx Γ T (T.lv F G n) n k (cxOf C8.CX0 P w K mg base N qual sc fa cdv A outer s H E).nox) : Okx Γ T { T.lv F G n with gen := fun _ _ => none } n k (Sg.gX P w K mg base N qual sc fa cdv A outer s H pn) :=
  ⟨ok.hK, ok.hc, ok.hN, ok.eN, ok.eS, ok.eF, ok.eK, ok.hu, ok.hr, rfl, ok.tn, ok.ta, ok.B, ok.A, ok.free, ok.gcd, ok.glb, ok.cls, ok.fnv, ok.fno, fun _ _ _ => .inl fun _ => rfl⟩
theorem gno_of {fuel : Nat} (M : Mdl Γ T G K mg) (hT : chkTab T fuel = true) {n : Nat} (ih : ∀ m, m ≤ n → PFn Γ T P w K mg base F G m) : GNo Γ T (T.lv F G n) P w K mg base n := fun j d hd => by
  match n, ih with
  | 0, _ => exact .inl fun _ => rfl
  | 1, _ => exact .inl fun _ => rfl
  | m + 2, ih =>
    refine .inr ?_
    obtain ⟨fa, fdd, x, qual, params, dvs, kws, FD, hb, hm, hk⟩ := M.gns j d hd
    have hc : chkDG T fuel d = true := by
      unfold chkTab at hT
      rw [Bool.and_eq_true, List.all_eq_true, List.all_eq_true] at hT
      exact hT.2 d (List.mem_of_getElem? hd)
    unfold chkDG at hc
    simp only [Bool.and_eq_true, decide_eq_true_eq] at hc
    obtain ⟨⟨⟨h1, h2⟩, h3⟩, h4⟩ := hc
    obtain ⟨gs, hnc⟩ := Sg.scG_by h2
    have eg : (T.lv F G (m + 2)).gen j = runG { T.lv F G m with gen := fun _ _ => none } d.gd := by
      funext ts
      show (match T.getG j with | some d => runG { T.lv F G m with gen := fun _ _ => none } d ts | none => none) = _
      unfold Tab.getG
      rw [hd]
      rfl
    refine ⟨2 * m + 1 + 1, fa, fdd, _, by omega, ?_, hb, hm, hk⟩
    rw [eg]
    have htl := np_take h3 h4
    refine Sg.gfnS_of (F := evGs { T.lv F G m with gen := fun _ _ => none } d.gd.body) FD gs hnc (fun ts ys h => ?_) (fun ts ys h => ?_) fun cdv A outer s H pn hr => ?_
    · unfold runG at h
      by_cases q : ts.length = d.gd.np
      · rw [q, htl]
      · rw [if_neg q] at h; cases h
    · unfold runG at h
      by_cases q : ts.length = d.gd.np
      · rw [if_pos q] at h
        rw [htl, h3]
        split at h
        · rename_i ys' r e
          cases h
          exact ⟨r, e⟩
        · cases h
      · rw [if_neg q] at h; cases h
    · have ok := okx_of (E := fun _ _ _ => False) M (outer := outer) (H := H) hr gs.nd gs.kind (ih m (by omega)) (gno_of M hT fun m' h' => ih m' (by omega))
      have okg := okx_g (pn := pn) ok
      exact snd_gs (fun s st q => snd_gm fuel _ _ okg ⟨Sg.cells_nil hnc, rfl, gs.co⟩ s st q) h1
termination_by n
end
theorem fn_all {P : Program} {w : World} {K : PySem.W.Frag} {mg : Str → Option Value} {base : Heap} {fuel F : Nat} {G : List Sy.T} (M : Mdl Γ T G K mg) (hT : chkTab T fuel = true) : ∀ (n m : Nat), m ≤ n → PFn Γ T P w K mg base F G m
  | 0, m, hm => by
    have e : m = 0 := by omega
    subst e
    refine ⟨fun j d hd hs x qual params dvs kws fa fdd FD => ⟨fun vs H Q E h => ?_, fun A outer s H args us vs Q E _ _ _ _ h => ?_⟩, fun j d hd x qual a v b kds kws fa fdd FD hab htk => ?_⟩
    · obtain ⟨_, _, _, _, _, _, h⟩ := h; exact False.elim h
    · obtain ⟨_, _, _, _, _, _, h⟩ := h; exact False.elim h
    · intro A outer s H u0 u us x z xs Q E hr e0 r0 rz rs hz hsp
      obtain ⟨_, _, _, _, _, _, h⟩ := hsp s.heap.objs.size (e0.hok.fresh (Nat.le_refl _))
      exact False.elim h
  | n + 1, m, hm => by
    have ih := fn_all (P := P) (w := w) (base := base) (F := F) M hT n
    by_cases hle : m ≤ n
    · exact ih m hle
    have e : m = n + 1 := by omega
    subst e
    have pf := ih n (Nat.le_refl _)
    have gno := gno_of (n := n) M hT ih
    have e1 : 2 * (n + 1) = (2 * n + 1) + 1 := by omega
    have hD : ∀ (j : Nat) (d : FnT), T.fns[j]? = some d → zipAll (chkS T fuel ⟨d.N, d.sc, fun _ => true⟩) d.fd.body d.body = true ∧ FnScope d.N (d.N.take d.fd.np) d.sc ∧ d.N.length = d.fd.nl ∧ d.fd.np ≤ d.fd.nl ∧ d.sc.kind = .function := fun j d hd => by
      have hc : chkD T fuel d = true := by
        unfold chkTab at hT
        rw [Bool.and_eq_true, List.all_eq_true, List.all_eq_true] at hT
        exact hT.1 d (List.mem_of_getElem? hd)
      unfold chkD at hc
      simp only [Bool.and_eq_true, decide_eq_true_eq] at hc
      obtain ⟨⟨⟨⟨h1, h2⟩, h3⟩, h4⟩, h5⟩ := hc
      exact ⟨h1, C8.fnScope_by h2, h3, h4, h5⟩
    have body : ∀ (j : Nat) (d : FnT), T.fns[j]? = some d → ∀ {qual : Str} {fa : Addr} (cdv : Value) (A : Around) (outer : List PySem.Env) (s : Shared) (H : Hp) (vs : List V) (Q : VK) (E : XK), Room (2 * n + 1) (A.deeper (envOfC qual d.sc s.heap.objs.size fa cdv)) → spC Γ (runD (T.lv F G n) d.fd) d.fd.np vs H Q E →
        ∃ t, PSs (cxOf C8.CX0 P w K mg base d.N qual d.sc fa cdv A outer s H E) d.body t ∧ t { nx := fun _ H' => Q .non H', rt := Q } (L2.start d.N vs) H := fun j d hd qual fa cdv A outer s H vs Q E hr h => by
      obtain ⟨h1, fs, h3, h4, h5⟩ := hD j d hd
      have ok := okx_of (E := E) M (outer := outer) (H := H) hr fs.nd h5 pf gno
      obtain ⟨t, g1, g2⟩ := body_ok (C := (T.lv F G n)) (d := d.fd) (snd_ss (fun s st q => snd_s fuel _ _ ok s st q) h1) h3 h4 h
      exact ⟨t, g1.nox, g2⟩
    refine ⟨fun j d hd hs x qual params dvs kws fa fdd FD => ?_, fun j d hd x qual a v b kds kws fa fdd FD hab htk => ?_⟩
    · obtain ⟨h1, fs, h3, h4, h5⟩ := hD j d hd
      rw [e1, T.lv_call F G n j hd]
      exact FD.ok fs (fun vs H Q E h => by rw [spC_len h, np_take h3 h4]) fun cdv A outer s H vs Q E hr h => body j d hd cdv A outer s H vs Q E hr h
    · obtain ⟨h1, fs, h3, h4, h5⟩ := hD j d hd
      rw [e1, T.lv_call F G n j hd]
      rw [htk] at fs
      exact SyV.fnV FD hab fs fun cdv A outer s H vs Q E hr h => body j d hd cdv A outer s H vs Q E hr h
end
end Sy
end

section
set_option Elab.async false
set_option linter.all false
set_option maxRecDepth 100000
/-! SyHd: the head of a law, for a table. -/
namespace Sy
open PySem L2 PyProof.Rows He
def Tab.cn (T : Tab) (c : Nat) : Str := (T.cls[c]?).getD Str.empty
def pathOf (T : Tab) (d : FnT) : Str × Option Str := match d.glob with
  | some x => (x, none)
  | none => match d.meth with
    | some (c, m) => (T.cn c, some m)
    | none => match d.ini with
      | some c => (T.cn c, some "__init__")
      | none => (Str.empty, none)
def oneOf (d : FnT) : Bool := match d.glob, d.meth, d.ini with
  | some _, none, none => true
  | none, some _, none => true
  | none, none, some _ => true
  | _, _, _ => false
def tDv : T → Option Dv
  | .non => some .non
  | .bl b => some (.bl b)
  | .int i => some (.int i)
  | .str x => some (.str x)
  | _ => none
def tDvs : List T → Option (List Dv)
  | [] => some []
  | t :: ts => match tDv t, tDvs ts with
    | some d, some ds => some (d :: ds)
    | _, _ => none
section
variable (K : PySem.W.Frag)
def glbB (x : Str) : T → Bool
  | .int i => (Fa.int x i).ok K
  | .str z => (Fa.str x z).ok K
  | .tup ts => match tDvs ts with
    | some ds => (Fa.glo x).ok K && tupB K x ds
    | none => false
  | _ => false
def fnB (T : Tab) (d : FnT) : Bool := (match d.glob with
  | some x => (Fa.glo x).ok K && (Fa.keep x).ok K
  | none => true) && (match d.meth with
  | some (c, m) => (Fa.meth (T.cn c) m).ok K
  | none => true) && (match d.ini with
  | some c => (Fa.mkr (T.cn c)).ok K
  | none => true)
def clsBF (T : Tab) (c : Nat) : Bool := (Fa.glo (T.cn c)).ok K && (Fa.cls (T.cn c)).ok K && eqO (PySem.W.findIn K (.ref (ga K (T.cn c))) "__class__") (some (some (.builtin "object.__class__"))) && decide (PySem.W.mroIn K (ga K (T.cn c)) (.type "object") = some true)
  && ((T.atL c).all fun f => (Fa.noat (T.cn c) f).ok K)
  && ((List.range T.cls.length).all fun d => decide (PySem.W.kitOne K (.ref (ga K (T.cn c))) (.ref (ga K (T.cn d))) = some (decide (c = d))))
  && (["int", "bool", "str", "list", "tuple", "dict"].all fun n => decide (PySem.W.kitOne K (.ref (ga K (T.cn c))) (.type n) = some false))
  && (["NoneType", "int", "bool", "str", "list", "tuple", "dict"].all fun n => decide (PySem.W.kitOne K (.type n) (.ref (ga K (T.cn c))) = some false))
def sayB (T : Tab) (D : List DefD) : Bool := (T.free.all fun x => (Fa.free x).ok K) && (T.gcd.all fun x => eqO (PySem.W.nsIn K mainGlobals x) (some (some (.builtin "math.gcd")))) && (T.glb.all fun p => glbB K p.1 p.2) && ((List.range T.cls.length).all fun c => clsBF K T c)
  && eqO (PySem.W.specialIn K (.builtin "object.__class__") "__get__") (some (some (.builtin "getset_descriptor.__get__"))) && decide (PySem.W.takesIn K (.builtin "object.__class__") = some true) && (T.fns.all fun d => fnB K T d) && (T.gens.all fun d => (Fa.glo d.glob).ok K && (Fa.keep d.glob).ok K) && (D.all fun d => d.ok K)
end
abbrev AlS : Type := Bool × List FnW
def obsS (T : Tab) (D : List DefD) (K : PySem.W.Frag) : AlS := (sayB K T D, D.map fun d => fnW K d.at_)
def valS (D : List DefD) : AlS := (true, D.map DefD.val)
def SaysS (T : Tab) (D : List DefD) (K : PySem.W.Frag) : Prop := obsS T D K = valS D
/-- the part of the heap that is told: no list is in it -/
def frL (g : Addr → Option Obj) (as : List Addr) : PySem.W.Frag := (frG g as).filter fun p => decide (p.2.cls ≠ .type "list")
def NoL (K : PySem.W.Frag) : Prop := ∀ a o, K.lookup a = some o → o.cls ≠ .type "list"
theorem lk_mem : ∀ {K : List (Addr × Obj)} {a : Addr} {o : Obj}, K.lookup a = some o → (a, o) ∈ K
  | [], a, o, h => by cases h
  | (b, u) :: K, a, o, h => by
    rw [List.lookup_cons] at h
    cases q : (a == b) with
    | true =>
      rw [q] at h
      have e : u = o := Option.some.inj h
      rw [eq_of_beq q, e]
      exact List.mem_cons_self
    | false =>
      rw [q] at h
      exact List.mem_cons_of_mem _ (lk_mem h)
theorem frL_no {g : Addr → Option Obj} {as : List Addr} : NoL (frL g as) := fun a o h => of_decide_eq_true (List.mem_filter.mp (lk_mem h)).2
theorem frL_in {as : List Addr} {h : Heap} : (frL h.get? as).In h := fun a o e => by
  have m := (List.mem_filter.mp (lk_mem e)).1
  unfold frG at m
  obtain ⟨b, _, q⟩ := List.mem_filterMap.mp m
  cases r : h.get? b with
  | none => rw [r] at q; cases q
  | some u =>
    rw [r] at q
    have q : (b, u) = (a, o) := Option.some.inj q
    cases q
    exact r
def obsSG (n : Nat) (T : Tab) (D : List DefD) (g : Addr → Option Obj) : AlS := obsS T D (frL g (asD g n))
def hookS (n : Nat) (T : Tab) (D : List DefD) : PySem.W.Hook where
  α := AlS
  obs := fun s => obsSG n T D s.heap.get?
  val := fun _ => valS D
  says := fun _ h => ∃ K : PySem.W.Frag, K.In h ∧ NoL K ∧ SaysS T D K
  of := fun _ _ e => ⟨_, frL_in, frL_no, e⟩
  keeps := fun _ _ _ ⟨K, hK, nl, c⟩ k => ⟨K, PySem.W.Frag.In.keeps hK k, nl, c⟩
theorem obsSG_eq {n : Nat} {T : Tab} {D : List DefD} {g : Addr → Option Obj} {s : Shared} (h : ∀ a, g a = s.heap.get? a) : obsSG n T D g = (hookS n T D).obs s := by
  have e : g = s.heap.get? := funext h
  rw [e] <;> rfl
/-- what the text alone must be: D: the defs of the table, then its generators -/
def sameD (T : Tab) : List FnT → List DefD → Bool
  | [], _ => true
  | d :: ds, D :: Ds => decide (D.at_ = pathOf T d) && oneOf d && decide (D.name.length = D.name.length) && sameD T ds Ds
  | _ :: _, [] => false
theorem forIn_skip {α β : Type} {s : β} {f : α → β → Sem (ForInStep β)} : ∀ {l : List α}, (∀ x ∈ l, f x s = pure (.yield s)) → forIn l s f = pure s
  | [], _ => by simp
  | x :: l, h => by
    rw [List.forIn_cons, h x List.mem_cons_self]
    show (pure (ForInStep.yield s) >>= _) = _
    rw [pure_bind]
    exact forIn_skip fun y hy => h y (List.mem_cons_of_mem _ hy)
theorem bind_dfl {fd : FuncData} {us : List Value} {as : List Arg} {ds : List Expr} {T : Addr} (hpm : fd.params = ⟨[], as, none, [], [], none, ds⟩) (hd : fd.defaults = .ref T) (nd : (as.map (·.arg)).Nodup) (hl : us.length = (as.map (·.arg)).length) (its : Array Value) :
    ∃ k, bindArgs fd ⟨us, []⟩ = seqItems? (.ref T) >>= k ∧ k (some its) = pure ((as.map (·.arg)).zip us) := by
  have em : ((as.map (·.arg)).filter fun n => (((as.map (·.arg)).zip us).lookup n).isNone) = [] := by
    rw [List.filter_eq_nil_iff]
    intro n hn
    have := zip_lookup_isSome hl hn
    cases q : (((as.map (·.arg)).zip us).lookup n) with
    | none => rw [q] at this; cases this
    | some _ => simp
  have eg : ¬ (us.length > (as.map (·.arg)).length) := by omega
  have ez := zip_filterMap nd hl
  unfold bindArgs
  rw [hpm, hd]
  refine ⟨_, rfl, ?_⟩
  dsimp only
  simp only [List.map_nil, List.nil_append, List.append_nil]
  rw [if_neg (by simpa using eg)]
  have em2 : ∀ m, (((as.map (·.arg)).take m).filter fun n => (((as.map (·.arg)).zip us).lookup n).isNone) = [] := fun m => by
    rw [List.filter_eq_nil_iff] at em ⊢
    exact fun n hn => em n (List.mem_of_mem_take hn)
  rw [em2]
  rw [if_neg (by simp)]
  rw [forIn_skip (fun y hy => by
    have h1 : y.1 ∈ as.map (·.arg) := List.mem_of_mem_drop (List.of_mem_zip hy).1
    have h2 := zip_lookup_isSome hl h1
    rw [if_neg]
    cases q : (((as.map (·.arg)).zip us).lookup y.1) with
    | none => rw [q] at h2; cases h2
    | some _ => simp)]
  rw [pure_bind]
  show (pure (List.filterMap (fun n => Option.map (fun x => (n, x)) (List.lookup n ((List.map (fun x => x.arg) as).zip us))) (List.map (fun x => x.arg) as)) : Sem (List (Str × Value))) = _
  rw [ez]
/-- plain parameters -/
def plainArgs (p : Arguments) (ns : List Str) : Bool := match p with
  | ⟨[], as, none, [], [], none, _⟩ => decide (as.map (·.arg) = ns) && decide ns.Nodup
  | _ => false
def starArgs (p : Arguments) (kn : Str) (ns : List Str) : Bool := match p with
  | ⟨[], [a], some v, [b], _, none, []⟩ => decide (b.arg = kn) && !(b.arg == a.arg) && decide (ns = [a.arg, b.arg, v.arg])
  | _ => false
def plainD (D : DefD) (ns : List Str) : Bool := plainArgs D.params ns
/-- the look at a def's datum -/
structure OkD (T : Tab) (d : FnT) (D : DefD) : Prop where
  at_ : D.at_ = pathOf T d
  one : oneOf d = true
  body : D.body = d.body
  sc : D.scope = d.sc
structure OkG (d : GnT) (D : DefD) : Prop where
  at_ : D.at_ = (d.glob, none)
  body : D.body = d.body
  sc : D.scope = d.sc
  pl : plainD D (d.N.take d.gd.np) = true
section
variable {Γ : Tx} {T : Tab} {D : List DefD} {K : PySem.W.Frag} {h : Heap} {mg : Str → Option Value}
theorem and_l {a b : Bool} (h : (a && b) = true) : a = true := (Bool.and_eq_true_iff.mp h).1
theorem and_r {a b : Bool} (h : (a && b) = true) : b = true := (Bool.and_eq_true_iff.mp h).2
theorem tDv_rep {t : Sy.T} {d : Dv} (h : tDv t = some d) : Rep Γ (fun _ => False) (fun _ => none) t (d.v K) := by
  cases t <;> simp only [tDv, Option.some.injEq] at h <;> first | (subst h; simp [Rep, Dv.v]) | cases h
theorem tDvs_rep : ∀ {ts : List Sy.T} {ds : List Dv}, tDvs ts = some ds → Reps Γ (fun _ => False) (fun _ => none) ts (ds.map (Dv.v K))
  | [], ds, h => by cases h; exact reps_nil.mpr rfl
  | t :: ts, ds, h => by
    unfold tDvs at h
    cases q : tDv t with
    | none => rw [q] at h; cases h
    | some d =>
      cases q2 : tDvs ts with
      | none => rw [q, q2] at h; cases h
      | some ds' =>
        rw [q, q2] at h
        cases h
        exact Reps.cons (tDv_rep q) (tDvs_rep q2)
theorem glbB_ok (hK : Γ.K = K) (X : K.In h) (G : h.Ns mainGlobals mg) {x : Str} {t : Sy.T} (c : glbB K x t = true) : ∃ u v, mg x = some u ∧ RelV v u ∧ Rep Γ (fun _ => False) (fun _ => none) t v := by
  cases t with
  | int i =>
    obtain ⟨tk, e⟩ := int_ok X G (show (Fa.int x i).ok K = true from c)
    exact ⟨_, .int i, e, ⟨tk, rfl⟩, by simp [Rep]⟩
  | str z =>
    obtain ⟨tk, e⟩ := str_ok X G (show (Fa.str x z).ok K = true from c)
    exact ⟨_, .str z, e, ⟨tk, rfl⟩, by simp [Rep]⟩
  | tup ts =>
    have c : (match tDvs ts with
      | some ds => (Fa.glo x).ok K && tupB K x ds
      | none => false) = true := c
    cases q : tDvs ts with
    | none => rw [q] at c; cases c
    | some ds =>
      rw [q] at c
      have c : ((Fa.glo x).ok K && tupB K x ds) = true := c
      have e := glo_ok X G (and_l c)
      refine ⟨_, .ref (ga K x), e, rfl, ?_⟩
      simp only [Rep]
      refine ⟨_, ds.map (Dv.v K), rfl, .inr ?_, tDvs_rep q⟩
      rcases tupB_ok (and_r c) (fun _ => none) with z | z
      · rcases z with z | ⟨o, z⟩ <;> cases z
      · rw [hK]; exact z
  | non => cases c
  | bl b => cases c
  | lst xs => cases c
  | dct ks vs => cases c
  | obj k xs => cases c
  | fn f => cases c
theorem SaysS.b (c : SaysS T D K) : sayB K T D = true := congrArg (fun z : AlS => z.1) c
theorem SaysS.def_ (c : SaysS T D K) {i : Nat} {d : DefD} (h : D[i]? = some d) : ∃ fd, FunD K d.name d.qual d.params d.body d.scope (d.dvs K) (d.kws K) (fAd K d.at_) fd := by
  have c2 : (D.all fun d => d.ok K) = true := and_r c.b
  have e : D.map (fun d => fnW K d.at_) = D.map DefD.val := congrArg (fun z : AlS => z.2) c
  have e2 : (D.map fun d => fnW K d.at_)[i]? = (D.map DefD.val)[i]? := by rw [e]
  rw [List.getElem?_map, List.getElem?_map, h] at e2
  exact DefD.funD (Option.some.inj e2) (List.all_eq_true.mp c2 d (List.mem_of_getElem? h))
theorem SaysS.glo (c : SaysS T D K) (X : K.In h) (G : h.Ns mainGlobals mg) {j : Nat} {d : FnT} {x : Str} (hd : T.fns[j]? = some d) (hx : d.glob = some x) : mg x = some (.ref (ga K x)) := by
  have cb := c.b
  unfold sayB at cb
  simp only [Bool.and_eq_true] at cb
  have fb := List.all_eq_true.mp cb.1.1.2 d (List.mem_of_getElem? hd)
  unfold fnB at fb
  rw [hx] at fb
  simp only [Bool.and_eq_true] at fb
  exact glo_ok X G fb.1.1.1
/-- the text's facts of a table -/
def gam (T : Tab) (K : PySem.W.Frag) : Tx := ⟨K, T.at_.length, fun c => ga K (T.cn c), fun c => T.atL c⟩
theorem binds_plain {d : DefD} {ns : List Str} {fa : Addr} {fdd : FuncData} (F : FunD K d.name d.qual d.params d.body d.scope (d.dvs K) (d.kws K) fa fdd) (hp : plainD d ns = true) : Binds K fdd ns [] := by
  have h2 : plainArgs d.params ns = true := hp
  unfold plainArgs at h2
  split at h2
  · rename_i as ds hpm
    have e : as.map (·.arg) = ns := of_decide_eq_true (and_l h2)
    have nd : ns.Nodup := of_decide_eq_true (and_r h2)
    subst e
    by_cases hz : d.dvs K = []
    · obtain ⟨oc, od, dV, kV, doc, pm, an, cdv, ct, osl, rfl, lk, hcd, hD, _⟩ := F.ex
      have hdv : dV = .none := by
        rcases hD with ⟨_, q⟩ | ⟨q, _⟩
        · exact q
        · exact absurd hz q
      subst hdv
      exact Binds.all fun us hl => bind_plain hpm rfl nd hl
    · obtain ⟨ds', v, b⟩ := FunD.binds1 (ps := as.map (·.arg)) F (as.map (·.arg)).length (d.dvs K).length hz (by omega) fun T kV doc pm an cdv ct us its hl hi => by
        have hd0 : its.drop (d.dvs K).length = [] := by rw [← hi]; exact List.drop_length
        rw [hd0, List.append_nil]
        exact bind_dfl hpm rfl nd hl its.toArray
      have e2 : ds' = [] := by
        refine List.eq_nil_of_length_eq_zero ?_
        rw [← v.length, List.drop_length]; rfl
      rw [e2] at b; exact b
  · cases h2
theorem mdl_of (c : SaysS T D K) (X : K.In h) (G : h.Ns mainGlobals mg) (hn : T.cls.length = T.at_.length) (hnd : ∀ c, c < T.at_.length → (T.atL c).Nodup) (hfew : ∀ c, c < T.at_.length → (T.atL c).length < 1000)
    (hD : ∀ (j : Nat) (d : FnT), T.fns[j]? = some d → ∃ e, D[j]? = some e ∧ OkD T d e ∧ (d.star = none → plainD e (d.N.take d.fd.np) = true) ∧ (∀ kn, d.star = some kn → starArgs e.params kn (d.N.take d.fd.np) = true ∧ e.dfl = []))
    (hG : ∀ (j : Nat) (d : GnT), T.gens[j]? = some d → ∃ e, D[T.fns.length + j]? = some e ∧ OkG d e) : Mdl (gam T K) T (T.glb.map (·.2)) K mg := by
  have cb := c.b
  unfold sayB at cb
  simp only [Bool.and_eq_true] at cb
  obtain ⟨⟨⟨⟨⟨⟨⟨⟨b1, b2⟩, b3⟩, b4⟩, b5⟩, b6⟩, b7⟩, b8⟩, b9⟩ := cb
  have hcl : ∀ c, c < T.at_.length → clsBF K T c = true := fun c hc => List.all_eq_true.mp b4 c (List.mem_range.mpr (by rw [hn]; exact hc))
  refine ⟨rfl, rfl, fun _ => rfl, ?_, ?_, fun x hx => ?_, fun x hx => ?_, fun j x t hj => ?_, fun c x hc => ?_, fun j d hd hs => ?_, fun j d hd => ?_, fun j d kn hd hs => ?_⟩
  · refine ⟨fun c hc => ?_, fun c hc => ?_, fun c hc => ?_, eqO_ok b5, of_decide_eq_true b6, fun c d hc hd => ?_, fun c hc n hm => ?_, fun d hd n hm => ?_⟩
    all_goals (have q := hcl _ (by assumption); unfold clsBF at q; simp only [Bool.and_eq_true] at q; obtain ⟨⟨⟨⟨⟨⟨⟨q1, q2⟩, q3⟩, q4⟩, q5⟩, q6⟩, q7⟩, q8⟩ := q)
    · exact cls_ok q2
    · exact eqO_ok q3
    · exact of_decide_eq_true q4
    · have q := hcl c hc
      unfold clsBF at q
      simp only [Bool.and_eq_true] at q
      exact of_decide_eq_true (List.all_eq_true.mp q.1.1.2 d (List.mem_range.mpr (by rw [hn]; exact hd)))
    · exact of_decide_eq_true (List.all_eq_true.mp q7 n hm)
    · exact of_decide_eq_true (List.all_eq_true.mp q8 n hm)
  · refine ⟨fun c hc f hf => ?_, hnd, hfew⟩
    have q := hcl c hc
    unfold clsBF at q
    simp only [Bool.and_eq_true] at q
    exact noat_ok (List.all_eq_true.mp q.1.1.1.2 f hf)
  · rw [List.contains_iff_mem] at hx
    exact free_ok X G (List.all_eq_true.mp b1 x hx)
  · rw [List.contains_iff_mem] at hx
    exact PySem.W.mg_of X G (eqO_ok (List.all_eq_true.mp b2 x hx))
  · refine ⟨by rw [List.getElem?_map, hj]; rfl, ?_⟩
    exact glbB_ok rfl X G (List.all_eq_true.mp b3 (x, t) (List.mem_of_getElem? hj))
  · have hlt : c < T.cls.length := (List.getElem?_eq_some_iff.mp hc).1
    have q := hcl c (by rw [← hn]; exact hlt)
    unfold clsBF at q
    simp only [Bool.and_eq_true] at q
    have e : T.cn c = x := by unfold Tab.cn; rw [hc]; rfl
    have := glo_ok X G q.1.1.1.1.1.1.1
    rw [e] at this
    show mg x = some (.ref (ga K (T.cn c)))
    rw [e]; exact this
  · obtain ⟨e, he, od, hp, _⟩ := hD j d hd
    obtain ⟨fdd, F⟩ := c.def_ he
    have fb := List.all_eq_true.mp b7 d (List.mem_of_getElem? hd)
    unfold fnB at fb
    simp only [Bool.and_eq_true] at fb
    obtain ⟨⟨g1, g2⟩, g3⟩ := fb
    have hs : d.star = none := Option.isNone_iff_eq_none.mp hs
    have hbn : Binds K fdd (d.N.take d.fd.np) [] := binds_plain F (hp hs)
    refine ⟨fAd K e.at_, fdd, e.name, e.qual, e.params, e.dvs K, e.kws K, by rw [← od.body, ← od.sc]; exact F, hbn, ?_⟩
    have one := od.one
    rw [od.at_]
    unfold pathOf
    unfold oneOf at one
    cases q1 : d.glob with
    | some x =>
      rw [q1] at g1 one
      cases q2 : d.meth with
      | some _ => rw [q2] at one; cases one
      | none =>
        cases q3 : d.ini with
        | some _ => rw [q2, q3] at one; cases one
        | none =>
          refine ⟨fun y hy => ?_, fun _ _ z => (by cases z), fun _ z => by cases z⟩
          cases hy
          simp only [Bool.and_eq_true] at g1
          exact ⟨glo_ok X G g1.1, g1.2⟩
    | none =>
      rw [q1] at one
      cases q2 : d.meth with
      | some cm =>
        obtain ⟨cc, m⟩ := cm
        rw [q2] at g2 one
        cases q3 : d.ini with
        | some _ => rw [q3] at one; cases one
        | none =>
          refine ⟨fun _ z => (by cases z), fun c m z => ?_, fun _ z => by cases z⟩
          cases z
          exact meth_ok g2
      | none =>
        rw [q2] at one
        cases q3 : d.ini with
        | none => rw [q3] at one; cases one
        | some cc =>
          rw [q3] at g3
          refine ⟨fun _ z => (by cases z), fun _ _ z => (by cases z), fun c z => ?_⟩
          cases z
          exact mkr_ok g3
  · obtain ⟨e, he, og⟩ := hG j d hd
    obtain ⟨fdd, F⟩ := c.def_ he
    have gb := List.all_eq_true.mp b8 d (List.mem_of_getElem? hd)
    simp only [Bool.and_eq_true] at gb
    refine ⟨fAd K e.at_, fdd, e.name, e.qual, e.params, e.dvs K, e.kws K, by rw [← og.body, ← og.sc]; exact F, binds_plain F og.pl, ?_⟩
    rw [og.at_]
    exact ⟨glo_ok X G gb.1, gb.2⟩
  · obtain ⟨e, he, od, _, hst⟩ := hD j d hd
    obtain ⟨hst, hdf⟩ := hst kn hs
    obtain ⟨fdd, F⟩ := c.def_ he
    have fb := List.all_eq_true.mp b7 d (List.mem_of_getElem? hd)
    unfold fnB at fb
    simp only [Bool.and_eq_true] at fb
    obtain ⟨⟨g1, g2⟩, g3⟩ := fb
    have hdvs : e.dvs K = [] := by unfold DefD.dvs; rw [hdf]; rfl
    rw [hdvs] at F
    unfold starArgs at hst
    split at hst
    · rename_i a v b kds hpm
      simp only [Bool.and_eq_true, Bool.not_eq_true', decide_eq_true_eq] at hst
      obtain ⟨⟨s1, s2⟩, s3⟩ := hst
      rw [hpm] at F
      refine ⟨fAd K e.at_, fdd, e.name, e.qual, a, v, b, kds, e.kws K, by rw [← od.body, ← od.sc]; exact F, s1, s2, s3, fun c hc => ?_⟩
      rw [od.at_]
      have one := od.one
      unfold pathOf
      unfold oneOf at one
      rw [hc] at g3 one
      cases q1 : d.glob with
      | some _ => rw [q1] at one; cases q2 : d.meth <;> rw [q2] at one <;> cases one
      | none =>
        cases q2 : d.meth with
        | some _ => rw [q1, q2] at one; cases one
        | none => simp only [hc]; exact mkr_ok g3
    · cases hst
end
end Sy
end

section
set_option Elab.async false
set_option linter.all false
set_option maxRecDepth 100000
/-! K89T: the table of the law's defs (printed by gen.py). -/
namespace K89
open PySem L2 PyProof.Rows Sy
def top (i : Nat) : Stmt := PySem.Challenge.pw_lostland_k89_listing_of_rooms.main.body.getD i (.Pass ⟨0, 0, 0, 0⟩)
def clsB (st : Stmt) (j : Nat) : Stmt := (match st with | .ClassDef (body := b) .. => b | _ => []).getD j (.Pass ⟨0, 0, 0, 0⟩)
/-- _is_number -/
def b__is_number : List Sm := [(.ret (.and_ [(.isi [.int] (.var 0)), (.nt (.isi [.bool] (.var 0)))]))]
def f__is_number : FnT := ⟨⟨1, 1, b__is_number⟩, ["value"], some "_is_number", none, none, defScope (top 16), defBody (top 16), none⟩
/-- is_fraction -/
def b_is_fraction : List Sm := [(.ife (.or_ [(.nt (.isi [.tuple] (.var 0))), (.cmp .ne (.blt false .len [(.var 0)]) (.cst (.int 2)))]) [(.ret (.cst (.bl false)))] []), (.asg (.tp [(.nm 1), (.nm 2)]) (.var 0)), (.ife (.or_ [(.nt (.call false 0 [(.var 1)])), (.nt (.call false 0 [(.var 2)]))]) [(.ret (.cst (.bl false)))] []), (.ret (.and_ [(.cmp .ge (.var 2) (.cst (.int 1))), (.cmp .eq (.blt false .gcd [(.var 1), (.var 2)]) (.cst (.int 1)))]))]
def f_is_fraction : FnT := ⟨⟨1, 3, b_is_fraction⟩, ["value", "over", "under"], some "is_fraction", none, none, defScope (top 17), defBody (top 17), none⟩
/-- is_spot -/
def b_is_spot : List Sm := [(.ret (.and_ [(.isi [.tuple] (.var 0)), (.cmp .eq (.blt false .len [(.var 0)]) (.cst (.int 2))), (.call false 1 [(.idx (.var 0) (.cst (.int 0)))]), (.call false 1 [(.idx (.var 0) (.cst (.int 1)))])]))]
def f_is_spot : FnT := ⟨⟨1, 1, b_is_spot⟩, ["value"], some "is_spot", none, none, defScope (top 18), defBody (top 18), none⟩
/-- fraction_text -/
def b_fraction_text : List Sm := [(.ret (.ife (.cmp .eq (.idx (.var 0) (.cst (.int 1))) (.cst (.int 1))) (.blt false .str_ [(.idx (.var 0) (.cst (.int 0)))]) (.fst [(.fm .no (.idx (.var 0) (.cst (.int 0)))), (.cst (.str "/")), (.fm .no (.idx (.var 0) (.cst (.int 1))))])))]
def f_fraction_text : FnT := ⟨⟨1, 1, b_fraction_text⟩, ["one"], some "fraction_text", none, none, defScope (top 19), defBody (top 19), none⟩
/-- is_kind -/
def b_is_kind : List Sm := [(.ret (.and_ [(.isi [.str] (.var 0)), (.cmp .isIn (.var 0) (.glb 0))]))]
def f_is_kind : FnT := ⟨⟨1, 1, b_is_kind⟩, ["value"], some "is_kind", none, none, defScope (top 24), defBody (top 24), none⟩
/-- _is_name -/
def b__is_name : List Sm := [(.ret (.and_ [(.isi [.str] (.var 0)), (.chn .le .le (.cst (.int 1)) (.blt false .len [(.var 0)]) (.cst (.int 6))), (.cmp .eq (.bmt false .stripC [(.var 0), (.glb 1)]) (.cst (.str "")))]))]
def f__is_name : FnT := ⟨⟨1, 1, b__is_name⟩, ["value"], some "_is_name", none, none, defScope (top 28), defBody (top 28), none⟩
/-- _is_reading -/
def b__is_reading : List Sm := [(.ret (.and_ [(.isi [.tuple] (.var 0)), (.cmp .eq (.blt false .len [(.var 0)]) (.cst (.int 2))), (.call false 5 [(.idx (.var 0) (.cst (.int 0)))]), (.call false 2 [(.idx (.var 0) (.cst (.int 1)))])]))]
def f__is_reading : FnT := ⟨⟨1, 1, b__is_reading⟩, ["value"], some "_is_reading", none, none, defScope (top 29), defBody (top 29), none⟩
/-- Sheet.__init__ -/
def b_Sheet___init__ : List Sm := [(.ife (.nt (.call false 5 [(.var 1)])) [.never] []), (.ife (.nt (.call false 4 [(.var 2)])) [.never] []), (.ife (.nt (.isi [.list, .tuple] (.var 3))) [.never] []), (.ife (.cmp .gt (.blt false .len [(.var 3)]) (.glb 2)) [.never] []), (.asg (.nm 4) (.dct true)), (.forc [5, 6] true (.var 3) (.tp [(.nm 5), (.nm 6)]) [(.ife (.or_ [(.nt (.call false 6 [(.var 6)])), (.cmp .isIn (.idx (.var 6) (.cst (.int 0))) (.var 4))]) [.never] []), (.asg (.sb (.var 4) (.idx (.var 6) (.cst (.int 0)))) (.idx (.var 6) (.cst (.int 1))))]), (.atr [(0, 0)] (.var 0) (.var 1)), (.atr [(0, 1)] (.var 0) (.var 2)), (.atr [(0, 2)] (.var 0) (.var 4))]
def f_Sheet___init__ : FnT := ⟨⟨4, 7, b_Sheet___init__⟩, ["self", "name", "kind", "readings", "spots", "at", "reading"], none, none, some 0, defScope (clsB (top 30) 0), defBody (clsB (top 30) 0), none⟩
/-- Sheet.readings -/
def b_Sheet_readings : List Sm := [(.ret (.comp false [1, 2] (.items (.att [(0, 2)] (.var 0))) (.tp [(.nm 1), (.nm 2)]) [] (.tup [(.var 1), (.var 2)])))]
def f_Sheet_readings : FnT := ⟨⟨1, 3, b_Sheet_readings⟩, ["self", "mark", "spot"], none, some (0, "readings"), none, defScope (clsB (top 30) 1), defBody (clsB (top 30) 1), none⟩
/-- Sheet.marks -/
def b_Sheet_marks : List Sm := [(.ret (.blt false .list_ [(.att [(0, 2)] (.var 0))]))]
def f_Sheet_marks : FnT := ⟨⟨1, 1, b_Sheet_marks⟩, ["self"], none, some (0, "marks"), none, defScope (clsB (top 30) 2), defBody (clsB (top 30) 2), none⟩
/-- _check_sheets -/
def b__check_sheets : List Sm := [(.for_ [3] (.enum (.var 0)) (.tp [(.nm 3), (.nm 2)]) [(.ife (.nt (.isi [.own 0] (.var 2))) [.never] [])]), (.ife (.cmp .gt (.blt false .len [(.var 0)]) (.glb 3)) [.never] []), (.asg (.nm 1) (.lst true [])), (.for_ [] (.seq (.var 0)) (.nm 2) [(.ife (.cmp .isIn (.att [(0, 0)] (.var 2)) (.var 1)) [.never] []), (.app (.var 1) (.att [(0, 0)] (.var 2)))])]
def f__check_sheets : FnT := ⟨⟨1, 4, b__check_sheets⟩, ["sheets", "names", "sheet", "at"], some "_check_sheets", none, none, defScope (top 34), defBody (top 34), none⟩
/-- _check_marks -/
def b__check_marks : List Sm := [(.ife (.nt (.isi [.list, .tuple] (.var 0))) [.never] []), (.asg (.nm 1) (.dct true)), (.for_ [2, 3] (.enum (.var 0)) (.tp [(.nm 2), (.nm 3)]) [(.ife (.or_ [(.nt (.call false 5 [(.var 3)])), (.cmp .isIn (.var 3) (.var 1))]) [.never] []), (.asg (.sb (.var 1) (.var 3)) (.cst (.bl true)))])]
def f__check_marks : FnT := ⟨⟨1, 4, b__check_marks⟩, ["marks", "held", "at", "mark"], some "_check_marks", none, none, defScope (top 35), defBody (top 35), none⟩
/-- Room.__init__ -/
def b_Room___init__ : List Sm := [(.ex (.call false 10 [(.var 2)])), (.ex (.call false 11 [(.var 1)])), (.asg (.nm 3) (.dcomp2 false [5, 6] (.seq (.var 2)) (.nm 5) (.seq (.mth false [(0, 9), (1, 15)] (.var 5) [])) (.nm 6) [] (.var 6) (.cst (.bl true)))), (.asg (.nm 4) (.comp false [6] (.seq (.var 1)) (.nm 6) [(.cmp .notIn (.var 6) (.var 3))] (.var 6))), (.ife (.cmp .gt (.op2 .add false (.blt false .len [(.var 3)]) (.blt false .len [(.var 4)])) (.glb 4)) [.never] []), (.atr [(1, 0)] (.var 0) (.blt false .list_ [(.var 2)])), (.atr [(1, 1)] (.var 0) (.blt false .sorted_ [(.var 4)])), (.atr [(1, 2)] (.var 0) (.blt false .sorted_ [(.op2 .add false (.blt false .list_ [(.var 3)]) (.var 4))]))]
def f_Room___init__ : FnT := ⟨⟨3, 7, b_Room___init__⟩, ["self", "marks", "sheets", "read", "loose", "sheet", "mark"], none, none, some 1, defScope (clsB (top 36) 0), defBody (clsB (top 36) 0), some "marks"⟩
/-- Room.sheets -/
def b_Room_sheets : List Sm := [(.ret (.blt false .list_ [(.att [(1, 0)] (.var 0))]))]
def f_Room_sheets : FnT := ⟨⟨1, 1, b_Room_sheets⟩, ["self"], none, some (1, "sheets"), none, defScope (clsB (top 36) 1), defBody (clsB (top 36) 1), none⟩
/-- Room.names -/
def b_Room_names : List Sm := [(.ret (.comp false [1] (.seq (.att [(1, 0)] (.var 0))) (.nm 1) [] (.att [(0, 0)] (.var 1))))]
def f_Room_names : FnT := ⟨⟨1, 2, b_Room_names⟩, ["self", "sheet"], none, some (1, "names"), none, defScope (clsB (top 36) 2), defBody (clsB (top 36) 2), none⟩
/-- Room.marks -/
def b_Room_marks : List Sm := [(.ret (.blt false .list_ [(.att [(1, 2)] (.var 0))]))]
def f_Room_marks : FnT := ⟨⟨1, 1, b_Room_marks⟩, ["self"], none, some (1, "marks"), none, defScope (clsB (top 36) 4), defBody (clsB (top 36) 4), none⟩
/-- Room.with_sheet -/
def b_Room_with_sheet : List Sm := [(.ife (.nt (.isi [.own 0] (.var 1))) [.never] []), (.asg (.nm 2) (.comp true [3] (.seq (.att [(1, 0)] (.var 0))) (.nm 3) [] (.ife (.cmp .eq (.att [(0, 0)] (.var 3)) (.att [(0, 0)] (.var 1))) (.var 1) (.var 3)))), (.ife (.cmp .notIn (.att [(0, 0)] (.var 1)) (.mth false [(1, 14)] (.var 0) [])) [(.app (.var 2) (.var 1))] []), (.ret (.newV false 1 12 true [(.var 2)] (.att [(1, 2)] (.var 0))))]
def f_Room_with_sheet : FnT := ⟨⟨2, 4, b_Room_with_sheet⟩, ["self", "sheet", "sheets", "held"], none, some (1, "with_sheet"), none, defScope (clsB (top 36) 9), defBody (clsB (top 36) 9), none⟩
/-- Room.__len__ -/
def b_Room___len__ : List Sm := [(.ret (.blt false .len [(.att [(1, 0)] (.var 0))]))]
def f_Room___len__ : FnT := ⟨⟨1, 1, b_Room___len__⟩, ["self"], none, some (1, "__len__"), none, defScope (clsB (top 36) 18), defBody (clsB (top 36) 18), none⟩
/-- _law_start -/
def b__law_start : List Sm := [(.asg (.nm 1) (.cst (.int 12036))), (.for_ [2] (.seq (.slc false (.var 0) (.cst .non) (.cst (.int 63)))) (.nm 2) [(.asg (.nm 1) (.op2 .mod false (.blt false .int_ [(.op2 .add false (.op2 .add false (.op2 .mul false (.var 1) (.cst (.int 48809))) (.op2 .mod false (.blt false .int_ [(.var 2)]) (.cst (.int 2147483399)))) (.cst (.int 61)))]) (.cst (.int 2147483543))))]), (.ret (.lst true [(.blt false .list_ [(.slc false (.var 0) (.cst .non) (.cst (.int 63)))]), (.cst (.int 0)), (.cst (.int 0)), (.var 1), (.cst (.int 0))]))]
def f__law_start : FnT := ⟨⟨1, 3, b__law_start⟩, ["_law_script", "_law_mixed", "_law_cell"], some "_law_start", none, none, defScope (top 38), defBody (top 38), none⟩
/-- _law_pull -/
def b__law_pull : List Sm := [(.asg (.sb (.var 0) (.cst (.int 4))) (.op2 .add false (.idx (.var 0) (.cst (.int 4))) (.cst (.int 1)))), (.ife (.and_ [(.cmp .eq (.idx (.var 0) (.cst (.int 2))) (.cst (.int 0))), (.cmp .lt (.idx (.var 0) (.cst (.int 1))) (.blt false .len [(.idx (.var 0) (.cst (.int 0)))]))]) [(.par [(.nm 3), (.sb (.var 0) (.cst (.int 1)))] [(.idx (.idx (.var 0) (.cst (.int 0))) (.idx (.var 0) (.cst (.int 1)))), (.op2 .add false (.idx (.var 0) (.cst (.int 1))) (.cst (.int 1)))]), (.ife (.cmp .ge (.var 3) (.op2 .pow false (.cst (.int 10)) (.cst (.int 18)))) [(.asg (.sb (.var 0) (.cst (.int 2))) (.var 3))] [(.asg (.sb (.var 0) (.cst (.int 3))) (.op2 .mod false (.blt false .int_ [(.op2 .add false (.op2 .add false (.op2 .mul false (.idx (.var 0) (.cst (.int 3))) (.cst (.int 39367))) (.op2 .mul false (.op2 .mod false (.blt false .int_ [(.var 3)]) (.cst (.int 2147483423))) (.cst (.int 509)))) (.cst (.int 89)))]) (.cst (.int 2147483587))))])] []), (.ife (.cmp .gt (.idx (.var 0) (.cst (.int 2))) (.cst (.int 0))) [(.par [(.nm 4), (.sb (.var 0) (.cst (.int 2)))] [(.op2 .mod false (.blt false .int_ [(.idx (.var 0) (.cst (.int 2)))]) (.var 1)), (.op2 .fdiv false (.idx (.var 0) (.cst (.int 2))) (.var 1))]), (.ret (.var 4))] []), (.asg (.nm 2) (.blt false .int_ [(.idx (.var 0) (.cst (.int 3)))])), (.asg (.sb (.var 0) (.cst (.int 3))) (.op2 .mod false (.blt false .int_ [(.op2 .add false (.op2 .add false (.op2 .add false (.op2 .pow false (.var 2) (.cst (.int 3))) (.op2 .mul false (.var 2) (.cst (.int 30013)))) (.op2 .mul false (.idx (.var 0) (.cst (.int 4))) (.cst (.int 1299841)))) (.cst (.int 70003)))]) (.cst (.int 2147483587)))), (.ret (.op2 .mod false (.blt false .int_ [(.op2 .add false (.op2 .fdiv false (.idx (.var 0) (.cst (.int 3))) (.cst (.int 71))) (.op2 .mul false (.op2 .mod false (.blt false .int_ [(.idx (.var 0) (.cst (.int 3)))]) (.cst (.int 8179))) (.cst (.int 59))))]) (.var 1)))]
def f__law_pull : FnT := ⟨⟨2, 5, b__law_pull⟩, ["_law_bag", "_law_many", "_law_seed", "_law_cell", "_law_digit"], some "_law_pull", none, none, defScope (top 39), defBody (top 39), none⟩
/-- _law_pick -/
def b__law_pick : List Sm := [(.ret (.idx (.var 1) (.call false 19 [(.var 0), (.blt false .len [(.var 1)])])))]
def f__law_pick : FnT := ⟨⟨2, 2, b__law_pick⟩, ["_law_bag", "_law_some"], some "_law_pick", none, none, defScope (top 40), defBody (top 40), none⟩
/-- _law_names -/
def b__law_names : List Sm := [(.par [(.nm 3), (.nm 4), (.nm 5)] [(.cst (.str "abcdefghijklmnopqrstuvwxyz")), (.call false 19 [(.var 0), (.cst (.int 2))]), (.call false 19 [(.var 0), (.cst (.int 26))])]), (.par [(.nm 6), (.nm 7)] [(.call false 20 [(.var 0), (.lst false [(.cst (.int 1)), (.cst (.int 3)), (.cst (.int 5)), (.cst (.int 7)), (.cst (.int 9)), (.cst (.int 11)), (.cst (.int 15)), (.cst (.int 17)), (.cst (.int 19)), (.cst (.int 21)), (.cst (.int 23)), (.cst (.int 25))])]), (.lst true [])]), (.for_ [2, 8, 9] (.rng1 (.var 1)) (.nm 2) [(.asg (.nm 8) (.bmt false .join [(.cst (.str "")), (.comp false [10] (.rng1 (.call false 20 [(.var 0), (.lst false [(.cst (.int 0)), (.cst (.int 1)), (.cst (.int 2)), (.cst (.int 5))])])) (.nm 10) [] (.call false 20 [(.var 0), (.var 3)]))])), (.asg (.nm 9) (.idx (.var 3) (.op2 .mod false (.blt false .int_ [(.op2 .add false (.var 5) (.op2 .mul false (.var 6) (.var 2)))]) (.cst (.int 26))))), (.app (.var 7) (.ife (.cmp .eq (.var 4) (.cst (.int 0))) (.op2 .add false (.var 9) (.var 8)) (.op2 .add false (.var 8) (.var 9))))]), (.ret (.var 7))]
def f__law_names : FnT := ⟨⟨2, 11, b__law_names⟩, ["_law_bag", "_law_many", "_law_k", "_law_letters", "_law_front", "_law_first", "_law_pace", "_law_found", "_law_stem", "_law_letter", "_law_j"], some "_law_names", none, none, defScope (top 41), defBody (top 41), none⟩
/-- _law_gcd -/
def b__law_gcd : List Sm := [(.par [(.nm 2), (.nm 3)] [(.blt false .abs_ [(.var 0)]), (.blt false .abs_ [(.var 1)])]), (.whl [] (.cmp .gt (.var 3) (.cst (.int 0))) [(.par [(.nm 2), (.nm 3)] [(.var 3), (.op2 .mod false (.blt false .int_ [(.var 2)]) (.var 3))])]), (.ret (.var 2))]
def f__law_gcd : FnT := ⟨⟨2, 4, b__law_gcd⟩, ["_law_one", "_law_other", "_law_a", "_law_b"], some "_law_gcd", none, none, defScope (top 42), defBody (top 42), none⟩
/-- _law_frac -/
def b__law_frac : List Sm := [(.asg (.nm 2) (.ife (.cmp .gt (.var 1) (.cst (.int 0))) (.call false 22 [(.var 0), (.var 1)]) (.op2 .sub false (.cst (.int 0)) (.call false 22 [(.var 0), (.var 1)])))), (.ret (.tup [(.op2 .fdiv false (.var 0) (.var 2)), (.op2 .fdiv false (.var 1) (.var 2))]))]
def f__law_frac : FnT := ⟨⟨2, 3, b__law_frac⟩, ["_law_over", "_law_under", "_law_size"], some "_law_frac", none, none, defScope (top 43), defBody (top 43), none⟩
/-- _law_text -/
def b__law_text : List Sm := [(.ret (.ife (.cmp .eq (.idx (.var 0) (.cst (.int 1))) (.cst (.int 1))) (.blt false .str_ [(.idx (.var 0) (.cst (.int 0)))]) (.op2 .add false (.op2 .add false (.blt false .str_ [(.idx (.var 0) (.cst (.int 0)))]) (.cst (.str "/"))) (.blt false .str_ [(.idx (.var 0) (.cst (.int 1)))]))))]
def f__law_text : FnT := ⟨⟨1, 1, b__law_text⟩, ["_law_one"], some "_law_text", none, none, defScope (top 44), defBody (top 44), none⟩
/-- _law_kinds -/
def b__law_kinds : List Sm := [(.asg (.nm 2) (.lst false [(.cst (.str "slanted")), (.cst (.str "turned")), (.cst (.str "mirrored")), (.cst (.str "stretched")), (.cst (.str "sized")), (.cst (.str "even"))])), (.par [(.nm 3), (.nm 4)] [(.call false 19 [(.var 0), (.cst (.int 5))]), (.call false 20 [(.var 0), (.var 2)])]), (.ife (.cmp .eq (.var 3) (.cst (.int 0))) [(.ret (.op2 .mul false (.lst false [(.var 4)]) (.var 1)))] []), (.ret (.comp false [5] (.rng1 (.var 1)) (.nm 5) [] (.call false 20 [(.var 0), (.ife (.cmp .eq (.var 3) (.cst (.int 1))) (.slc false (.var 2) (.cst .non) (.cst (.int 3))) (.var 2))])))]
def f__law_kinds : FnT := ⟨⟨2, 6, b__law_kinds⟩, ["_law_bag", "_law_many", "_law_every", "_law_way", "_law_one", "_law_k"], some "_law_kinds", none, none, defScope (top 45), defBody (top 45), none⟩
/-- _law_same -/
def b__law_same : List Sm := [(.ife (.or_ [(.cmp .isN (.var 1) (.cst .non)), (.cmp .isN (.var 0) (.cst .non))]) [(.ret (.and_ [(.cmp .isN (.var 1) (.cst .non)), (.cmp .isN (.var 0) (.cst .non))]))] []), (.ife (.isi [.dict] (.var 1)) [(.ife (.or_ [(.nt (.isi [.dict] (.var 0))), (.nt (.call false 26 [(.blt false .list_ [(.var 0)]), (.blt false .list_ [(.var 1)])]))]) [(.ret (.cst (.bl false)))] []), (.ret (.blt false .all_ [(.comp false [2] (.seq (.var 1)) (.nm 2) [] (.call false 26 [(.idx (.var 0) (.var 2)), (.idx (.var 1) (.var 2))]))]))] []), (.ife (.isi [.list, .tuple] (.var 1)) [(.ife (.or_ [(.cmp .ne (.isi [.list] (.var 0)) (.isi [.list] (.var 1))), (.cmp .ne (.isi [.tuple] (.var 0)) (.isi [.tuple] (.var 1)))]) [(.ret (.cst (.bl false)))] []), (.ret (.and_ [(.cmp .eq (.blt false .len [(.var 0)]) (.blt false .len [(.var 1)])), (.blt false .all_ [(.comp false [3, 4] (.zip (.var 0) (.var 1)) (.tp [(.nm 3), (.nm 4)]) [] (.call false 26 [(.var 3), (.var 4)]))])]))] []), (.ife (.or_ [(.cmp .ne (.isi [.bool] (.var 0)) (.isi [.bool] (.var 1))), (.cmp .ne (.isi [.int] (.var 0)) (.isi [.int] (.var 1)))]) [(.ret (.cst (.bl false)))] []), (.ret (.and_ [(.cmp .eq (.isi [.str] (.var 0)) (.isi [.str] (.var 1))), (.cmp .eq (.var 0) (.var 1))]))]
def f__law_same : FnT := ⟨⟨2, 5, b__law_same⟩, ["_law_found", "_law_due", "_law_key", "_law_one", "_law_other"], some "_law_same", none, none, defScope (top 46), defBody (top 46), none⟩
/-- _law_sheet -/
def b__law_sheet : List Sm := [(.asg (.nm 1) (.comp true [3, 4] (.seq (.idx (.var 0) (.cst (.int 2)))) (.tp [(.nm 3), (.nm 4)]) [] (.tup [(.var 3), (.var 4)]))), (.asg (.nm 2) (.new false 0 7 [(.idx (.var 0) (.cst (.int 0))), (.idx (.var 0) (.cst (.int 1))), (.var 1)])), (.app (.var 1) (.cst .non)), (.ret (.var 2))]
def f__law_sheet : FnT := ⟨⟨1, 5, b__law_sheet⟩, ["_law_sheet_here", "_law_readings", "_law_found", "_law_label", "_law_spot"], some "_law_sheet", none, none, defScope (top 47), defBody (top 47), none⟩
/-- _law_room -/
def b__law_room : List Sm := [(.par [(.nm 3), (.nm 4)] [(.comp false [5] (.seq (.idx (.var 0) (.cst (.int 0)))) (.nm 5) [] (.call false 27 [(.var 5)])), (.blt false .list_ [(.idx (.var 0) (.cst (.int 1)))])]), (.ife (.cmp .eq (.blt false .len [(.var 3)]) (.cst (.int 0))) [(.ret (.newV false 1 12 false [] (.var 4)))] []), (.ife (.cmp .eq (.blt false .len [(.var 3)]) (.cst (.int 1))) [(.ret (.newV false 1 12 false [(.idx (.var 3) (.cst (.int 0)))] (.var 4)))] []), (.ife (.cmp .eq (.blt false .len [(.var 3)]) (.cst (.int 2))) [(.ret (.newV false 1 12 false [(.idx (.var 3) (.cst (.int 0))), (.idx (.var 3) (.cst (.int 1)))] (.var 4)))] []), (.asg (.nm 1) (.newV false 1 12 false [(.idx (.var 3) (.cst (.int 0))), (.idx (.var 3) (.cst (.int 1))), (.idx (.var 3) (.cst (.int 2)))] (.var 4))), (.for_ [2] (.seq (.slc false (.var 3) (.cst (.int 3)) (.cst .non))) (.nm 2) [(.asg (.nm 1) (.mth false [(1, 16)] (.var 1) [(.var 2)]))]), (.ret (.var 1))]
def f__law_room : FnT := ⟨⟨1, 6, b__law_room⟩, ["_law_room_here", "_law_found", "_law_one", "_law_some", "_law_extra", "_law_sheet_here"], some "_law_room", none, none, defScope (top 48), defBody (top 48), none⟩
/-- _law_column -/
def b__law_column : List Sm := [(.asg (.nm 3) (.op2 .mul false (.cst (.str " ")) (.blt false .max2 [(.cst (.int 0)), (.op2 .sub false (.var 1) (.blt false .len [(.var 0)]))]))), (.ret (.ife (.var 2) (.op2 .add false (.var 0) (.var 3)) (.op2 .add false (.var 3) (.var 0))))]
def f__law_column : FnT := ⟨⟨3, 4, b__law_column⟩, ["_law_text_here", "_law_wide", "_law_left", "_law_gap"], some "_law_column", none, none, defScope (top 49), defBody (top 49), none⟩
/-- _law_some_fraction -/
def b__law_some_fraction : List Sm := [(.par [(.nm 1), (.nm 2)] [(.call false 20 [(.var 0), (.lst false [(.cst (.int 1)), (.cst (.int 9)), (.cst (.int 99)), (.cst (.int 9999)), (.cst (.int 999999))])]), (.op2 .sub false (.cst (.int 1)) (.op2 .mul false (.cst (.int 2)) (.call false 19 [(.var 0), (.cst (.int 2))])))]), (.ife (.cmp .eq (.var 1) (.cst (.int 1))) [(.ret (.tup [(.op2 .sub false (.call false 19 [(.var 0), (.cst (.int 5))]) (.cst (.int 2))), (.cst (.int 1))]))] []), (.ret (.call false 23 [(.op2 .mul false (.var 2) (.call false 19 [(.var 0), (.op2 .add false (.var 1) (.cst (.int 1)))])), (.op2 .add false (.cst (.int 1)) (.call false 19 [(.var 0), (.var 1)]))]))]
def f__law_some_fraction : FnT := ⟨⟨1, 3, b__law_some_fraction⟩, ["_law_bag", "_law_size", "_law_sign"], some "_law_some_fraction", none, none, defScope (top 50), defBody (top 50), none⟩
/-- _law_lines -/
def b__law_lines : List Sm := [(.asg (.nm 1) (.lst true [])), (.for_ [2, 3, 4, 5, 6, 7, 8] (.seq (.idx (.var 0) (.cst (.int 0)))) (.tp [(.nm 2), (.nm 3), (.nm 4)]) [(.asg (.nm 5) (.op2 .add false (.call false 29 [(.var 2), (.cst (.int 6)), (.cst (.bl true))]) (.cst (.str " ")))), (.ife (.cmp .eq (.var 4) (.lst false [])) [(.app (.var 1) (.op2 .add false (.var 5) (.cst (.str "-"))))] []), (.for_ [6, 7, 8] (.seq (.var 4)) (.tp [(.nm 6), (.nm 7)]) [(.asg (.nm 8) (.comp false [9] (.seq (.var 7)) (.nm 9) [] (.call false 29 [(.call false 24 [(.var 9)]), (.cst (.int 9)), (.cst (.bl false))]))), (.app (.var 1) (.op2 .add false (.op2 .add false (.op2 .add false (.op2 .add false (.op2 .add false (.var 5) (.call false 29 [(.var 6), (.cst (.int 6)), (.cst (.bl true))])) (.cst (.str " "))) (.idx (.var 8) (.cst (.int 0)))) (.cst (.str " "))) (.idx (.var 8) (.cst (.int 1)))))])]), (.ret (.var 1))]
def f__law_lines : FnT := ⟨⟨1, 10, b__law_lines⟩, ["_law_room_here", "_law_found", "_law_name", "_law_kind", "_law_readings", "_law_start_here", "_law_label", "_law_spot", "_law_some", "_law_one"], some "_law_lines", none, none, defScope (top 51), defBody (top 51), none⟩
/-- law -/
def b_law : List Sm := [(.asg (.nm 1) (.call true 18 [(.var 0)])), (.par [(.nm 7), (.nm 8)] [(.slc false (.call false 21 [(.var 1), (.cst (.int 4))]) (.cst .non) (.call false 19 [(.var 1), (.cst (.int 5))])), (.call false 21 [(.var 1), (.cst (.int 7))])]), (.asg (.nm 2) (.lst true [])), (.for_ [3, 9, 10, 11] (.seq (.var 7)) (.nm 3) [(.asg (.nm 9) (.call false 19 [(.var 1), (.cst (.int 7))])), (.asg (.nm 10) (.slc false (.op2 .add false (.slc false (.var 8) (.var 9) (.cst .non)) (.slc false (.var 8) (.cst .non) (.var 9))) (.cst .non) (.call false 19 [(.var 1), (.cst (.int 6))]))), (.asg (.nm 11) (.comp false [14] (.seq (.var 10)) (.nm 14) [] (.tup [(.var 14), (.tup [(.call false 30 [(.var 1)]), (.call false 30 [(.var 1)])])]))), (.app (.var 2) (.tup [(.var 3), (.idx (.call false 25 [(.var 1), (.cst (.int 1))]) (.cst (.int 0))), (.var 11)]))]), (.asg (.nm 4) (.call false 28 [(.tup [(.var 2), (.var 8)])])), (.asg (.nm 5) (.call false 31 [(.tup [(.var 2), (.var 8)])])), (.par [(.nm 12), (.nm 13)] [(.lstg true 0 [(.var 4)]), (.cst (.int 0))]), (.app (.var 12) (.cst .non)), (.forg [6] 0 [(.var 4)] (.nm 6) [(.ife (.or_ [(.cmp .ge (.var 13) (.blt false .len [(.var 5)])), (.nt (.call false 26 [(.var 6), (.idx (.var 5) (.var 13))]))]) [(.ret (.cst (.bl false)))] []), (.asg (.nm 13) (.op2 .add false (.var 13) (.cst (.int 1))))]), (.ret (.and_ [(.cmp .eq (.var 13) (.blt false .len [(.var 5)])), (.call false 26 [(.var 12), (.op2 .add false (.var 5) (.lst false [(.cst .non)]))]), (.call false 26 [(.mth false [(0, 9), (1, 15)] (.var 4) []), (.blt false .sorted_ [(.var 8)])]), (.cmp .eq (.lenO [(1, 17)] (.var 4)) (.blt false .len [(.var 7)]))]))]
def f_law : FnT := ⟨⟨1, 15, b_law⟩, ["_law_script", "_law_bag", "_law_sheets", "_law_name", "_law_room_here", "_law_due", "_law_theline", "_law_names_here", "_law_labels", "_law_start_here", "_law_some", "_law_readings", "_law_found", "_law_many", "_law_label"], some "law", none, none, defScope (top 52), defBody (top 52), none⟩
/-- listing -/
def g_listing : List Gm := [(.for_ [1, 2, 3, 4] (.seq (.mth false [(1, 13)] (.var 0) [])) (.nm 1) [(.pl (.asg (.nm 2) (.mth false [(0, 8)] (.var 1) []))), (.for_ [3, 4] (.seq (.var 2)) (.tp [(.nm 3), (.nm 4)]) [(.yld (.fst [(.fm (.left 6) (.att [(0, 0)] (.var 1))), (.cst (.str " ")), (.fm (.left 6) (.var 3)), (.cst (.str " ")), (.fm (.right 9) (.call false 3 [(.idx (.var 4) (.cst (.int 0)))])), (.cst (.str " ")), (.fm (.right 9) (.call false 3 [(.idx (.var 4) (.cst (.int 1)))]))]))]), (.ife (.nt (.var 2)) [(.yld (.fst [(.fm (.left 6) (.att [(0, 0)] (.var 1))), (.cst (.str " -"))]))] [])])]
def gf_listing : GnT := ⟨⟨1, 5, g_listing⟩, ["room", "sheet", "readings", "mark", "spot"], "listing", defScope (top 21), defBody (top 21)⟩
def tab : Tab := ⟨[f__is_number, f_is_fraction, f_is_spot, f_fraction_text, f_is_kind, f__is_name, f__is_reading, f_Sheet___init__, f_Sheet_readings, f_Sheet_marks, f__check_sheets, f__check_marks, f_Room___init__, f_Room_sheets, f_Room_names, f_Room_marks, f_Room_with_sheet, f_Room___len__, f__law_start, f__law_pull, f__law_pick, f__law_names, f__law_gcd, f__law_frac, f__law_text, f__law_kinds, f__law_same, f__law_sheet, f__law_room, f__law_column, f__law_some_fraction, f__law_lines, f_law], [("KINDS", (.tup [(.str "slanted"), (.str "turned"), (.str "mirrored"), (.str "stretched"), (.str "sized"), (.str "even")])), ("_LETTERS", (.str "abcdefghijklmnopqrstuvwxyz")), ("_MOST_READINGS", (.int 12)), ("_MOST_SHEETS", (.int 8)), ("_MOST_MARKS", (.int 12))], ["Sheet", "Room"], [["name", "kind", "_spots"], ["_sheets", "_loose", "_marks"]], ["len", "int", "abs", "str", "list", "tuple", "sorted", "all", "any", "max", "min", "bool", "dict", "isinstance", "range", "zip", "enumerate"], ["gcd"], [gf_listing]⟩
theorem ok_f__is_number : chkD tab 60 f__is_number = true := by decide +kernel
theorem ok_f_is_fraction : chkD tab 60 f_is_fraction = true := by decide +kernel
theorem ok_f_is_spot : chkD tab 60 f_is_spot = true := by decide +kernel
theorem ok_f_fraction_text : chkD tab 60 f_fraction_text = true := by decide +kernel
theorem ok_f_is_kind : chkD tab 60 f_is_kind = true := by decide +kernel
theorem ok_f__is_name : chkD tab 60 f__is_name = true := by decide +kernel
theorem ok_f__is_reading : chkD tab 60 f__is_reading = true := by decide +kernel
theorem ok_f_Sheet___init__ : chkD tab 60 f_Sheet___init__ = true := by decide +kernel
theorem ok_f_Sheet_readings : chkD tab 60 f_Sheet_readings = true := by decide +kernel
theorem ok_f_Sheet_marks : chkD tab 60 f_Sheet_marks = true := by decide +kernel
theorem ok_f__check_sheets : chkD tab 60 f__check_sheets = true := by decide +kernel
theorem ok_f__check_marks : chkD tab 60 f__check_marks = true := by decide +kernel
theorem ok_f_Room___init__ : chkD tab 60 f_Room___init__ = true := by decide +kernel
theorem ok_f_Room_sheets : chkD tab 60 f_Room_sheets = true := by decide +kernel
theorem ok_f_Room_names : chkD tab 60 f_Room_names = true := by decide +kernel
theorem ok_f_Room_marks : chkD tab 60 f_Room_marks = true := by decide +kernel
theorem ok_f_Room_with_sheet : chkD tab 60 f_Room_with_sheet = true := by decide +kernel
theorem ok_f_Room___len__ : chkD tab 60 f_Room___len__ = true := by decide +kernel
theorem ok_f__law_start : chkD tab 60 f__law_start = true := by decide +kernel
theorem ok_f__law_pull : chkD tab 60 f__law_pull = true := by decide +kernel
theorem ok_f__law_pick : chkD tab 60 f__law_pick = true := by decide +kernel
theorem ok_f__law_names : chkD tab 60 f__law_names = true := by decide +kernel
theorem ok_f__law_gcd : chkD tab 60 f__law_gcd = true := by decide +kernel
theorem ok_f__law_frac : chkD tab 60 f__law_frac = true := by decide +kernel
theorem ok_f__law_text : chkD tab 60 f__law_text = true := by decide +kernel
theorem ok_f__law_kinds : chkD tab 60 f__law_kinds = true := by decide +kernel
theorem ok_f__law_same : chkD tab 60 f__law_same = true := by decide +kernel
theorem ok_f__law_sheet : chkD tab 60 f__law_sheet = true := by decide +kernel
theorem ok_f__law_room : chkD tab 60 f__law_room = true := by decide +kernel
theorem ok_f__law_column : chkD tab 60 f__law_column = true := by decide +kernel
theorem ok_f__law_some_fraction : chkD tab 60 f__law_some_fraction = true := by decide +kernel
theorem ok_f__law_lines : chkD tab 60 f__law_lines = true := by decide +kernel
theorem ok_f_law : chkD tab 60 f_law = true := by decide +kernel
theorem ok_gf_listing : chkDG tab 60 gf_listing = true := by decide +kernel
theorem ok_tab : chkTab tab 60 = true := by
  unfold chkTab
  rw [Bool.and_eq_true, List.all_eq_true, List.all_eq_true]
  refine ⟨fun d hd => ?_, fun d hd => ?_⟩
  · unfold tab at hd
    simp only [List.mem_cons, List.not_mem_nil, or_false] at hd
    rcases hd with rfl | rfl | rfl | rfl | rfl | rfl | rfl | rfl | rfl | rfl | rfl | rfl | rfl | rfl | rfl | rfl | rfl | rfl | rfl | rfl | rfl | rfl | rfl | rfl | rfl | rfl | rfl | rfl | rfl | rfl | rfl | rfl | rfl
    · exact ok_f__is_number
    · exact ok_f_is_fraction
    · exact ok_f_is_spot
    · exact ok_f_fraction_text
    · exact ok_f_is_kind
    · exact ok_f__is_name
    · exact ok_f__is_reading
    · exact ok_f_Sheet___init__
    · exact ok_f_Sheet_readings
    · exact ok_f_Sheet_marks
    · exact ok_f__check_sheets
    · exact ok_f__check_marks
    · exact ok_f_Room___init__
    · exact ok_f_Room_sheets
    · exact ok_f_Room_names
    · exact ok_f_Room_marks
    · exact ok_f_Room_with_sheet
    · exact ok_f_Room___len__
    · exact ok_f__law_start
    · exact ok_f__law_pull
    · exact ok_f__law_pick
    · exact ok_f__law_names
    · exact ok_f__law_gcd
    · exact ok_f__law_frac
    · exact ok_f__law_text
    · exact ok_f__law_kinds
    · exact ok_f__law_same
    · exact ok_f__law_sheet
    · exact ok_f__law_room
    · exact ok_f__law_column
    · exact ok_f__law_some_fraction
    · exact ok_f__law_lines
    · exact ok_f_law
  · unfold tab at hd
    simp only [List.mem_cons, List.not_mem_nil, or_false] at hd
    rcases hd with rfl
    · exact ok_gf_listing
end K89
end

section
set_option Elab.async false
set_option linter.all false
set_option maxRecDepth 100000
set_option maxHeartbeats 0
/-! K89H: the head of the law (printed by mk_H.py). -/
namespace K89
open PySem L2 PyProof.Rows Sy He
def d__is_number : DefD := ⟨("_is_number", none), "_is_number", "_is_number", defArgs (top 16), defBody (top 16), defScope (top 16), [], []⟩
def d_is_fraction : DefD := ⟨("is_fraction", none), "is_fraction", "is_fraction", defArgs (top 17), defBody (top 17), defScope (top 17), [], []⟩
def d_is_spot : DefD := ⟨("is_spot", none), "is_spot", "is_spot", defArgs (top 18), defBody (top 18), defScope (top 18), [], []⟩
def d_fraction_text : DefD := ⟨("fraction_text", none), "fraction_text", "fraction_text", defArgs (top 19), defBody (top 19), defScope (top 19), [], []⟩
def d_is_kind : DefD := ⟨("is_kind", none), "is_kind", "is_kind", defArgs (top 24), defBody (top 24), defScope (top 24), [], []⟩
def d__is_name : DefD := ⟨("_is_name", none), "_is_name", "_is_name", defArgs (top 28), defBody (top 28), defScope (top 28), [], []⟩
def d__is_reading : DefD := ⟨("_is_reading", none), "_is_reading", "_is_reading", defArgs (top 29), defBody (top 29), defScope (top 29), [], []⟩
def d_Sheet___init__ : DefD := ⟨("Sheet", some "__init__"), "__init__", "Sheet.__init__", defArgs (clsB (top 30) 0), defBody (clsB (top 30) 0), defScope (clsB (top 30) 0), [.adr (dflAt ("Sheet", some "__init__") 0)], []⟩
def d_Sheet_readings : DefD := ⟨("Sheet", some "readings"), "readings", "Sheet.readings", defArgs (clsB (top 30) 1), defBody (clsB (top 30) 1), defScope (clsB (top 30) 1), [], []⟩
def d_Sheet_marks : DefD := ⟨("Sheet", some "marks"), "marks", "Sheet.marks", defArgs (clsB (top 30) 2), defBody (clsB (top 30) 2), defScope (clsB (top 30) 2), [], []⟩
def d__check_sheets : DefD := ⟨("_check_sheets", none), "_check_sheets", "_check_sheets", defArgs (top 34), defBody (top 34), defScope (top 34), [], []⟩
def d__check_marks : DefD := ⟨("_check_marks", none), "_check_marks", "_check_marks", defArgs (top 35), defBody (top 35), defScope (top 35), [], []⟩
def d_Room___init__ : DefD := ⟨("Room", some "__init__"), "__init__", "Room.__init__", defArgs (clsB (top 36) 0), defBody (clsB (top 36) 0), defScope (clsB (top 36) 0), [], []⟩
def d_Room_sheets : DefD := ⟨("Room", some "sheets"), "sheets", "Room.sheets", defArgs (clsB (top 36) 1), defBody (clsB (top 36) 1), defScope (clsB (top 36) 1), [], []⟩
def d_Room_names : DefD := ⟨("Room", some "names"), "names", "Room.names", defArgs (clsB (top 36) 2), defBody (clsB (top 36) 2), defScope (clsB (top 36) 2), [], []⟩
def d_Room_marks : DefD := ⟨("Room", some "marks"), "marks", "Room.marks", defArgs (clsB (top 36) 4), defBody (clsB (top 36) 4), defScope (clsB (top 36) 4), [], []⟩
def d_Room_with_sheet : DefD := ⟨("Room", some "with_sheet"), "with_sheet", "Room.with_sheet", defArgs (clsB (top 36) 9), defBody (clsB (top 36) 9), defScope (clsB (top 36) 9), [], []⟩
def d_Room___len__ : DefD := ⟨("Room", some "__len__"), "__len__", "Room.__len__", defArgs (clsB (top 36) 18), defBody (clsB (top 36) 18), defScope (clsB (top 36) 18), [], []⟩
def d__law_start : DefD := ⟨("_law_start", none), "_law_start", "_law_start", defArgs (top 38), defBody (top 38), defScope (top 38), [], []⟩
def d__law_pull : DefD := ⟨("_law_pull", none), "_law_pull", "_law_pull", defArgs (top 39), defBody (top 39), defScope (top 39), [], []⟩
def d__law_pick : DefD := ⟨("_law_pick", none), "_law_pick", "_law_pick", defArgs (top 40), defBody (top 40), defScope (top 40), [], []⟩
def d__law_names : DefD := ⟨("_law_names", none), "_law_names", "_law_names", defArgs (top 41), defBody (top 41), defScope (top 41), [], []⟩
def d__law_gcd : DefD := ⟨("_law_gcd", none), "_law_gcd", "_law_gcd", defArgs (top 42), defBody (top 42), defScope (top 42), [], []⟩
def d__law_frac : DefD := ⟨("_law_frac", none), "_law_frac", "_law_frac", defArgs (top 43), defBody (top 43), defScope (top 43), [], []⟩
def d__law_text : DefD := ⟨("_law_text", none), "_law_text", "_law_text", defArgs (top 44), defBody (top 44), defScope (top 44), [], []⟩
def d__law_kinds : DefD := ⟨("_law_kinds", none), "_law_kinds", "_law_kinds", defArgs (top 45), defBody (top 45), defScope (top 45), [], []⟩
def d__law_same : DefD := ⟨("_law_same", none), "_law_same", "_law_same", defArgs (top 46), defBody (top 46), defScope (top 46), [], []⟩
def d__law_sheet : DefD := ⟨("_law_sheet", none), "_law_sheet", "_law_sheet", defArgs (top 47), defBody (top 47), defScope (top 47), [], []⟩
def d__law_room : DefD := ⟨("_law_room", none), "_law_room", "_law_room", defArgs (top 48), defBody (top 48), defScope (top 48), [], []⟩
def d__law_column : DefD := ⟨("_law_column", none), "_law_column", "_law_column", defArgs (top 49), defBody (top 49), defScope (top 49), [], []⟩
def d__law_some_fraction : DefD := ⟨("_law_some_fraction", none), "_law_some_fraction", "_law_some_fraction", defArgs (top 50), defBody (top 50), defScope (top 50), [], []⟩
def d__law_lines : DefD := ⟨("_law_lines", none), "_law_lines", "_law_lines", defArgs (top 51), defBody (top 51), defScope (top 51), [], []⟩
def d_law : DefD := ⟨("law", none), "law", "law", defArgs (top 52), defBody (top 52), defScope (top 52), [], []⟩
def d_listing : DefD := ⟨("listing", none), "listing", "listing", defArgs (top 21), defBody (top 21), defScope (top 21), [], []⟩
def D : List DefD := [d__is_number, d_is_fraction, d_is_spot, d_fraction_text, d_is_kind, d__is_name, d__is_reading, d_Sheet___init__, d_Sheet_readings, d_Sheet_marks, d__check_sheets, d__check_marks, d_Room___init__, d_Room_sheets, d_Room_names, d_Room_marks, d_Room_with_sheet, d_Room___len__, d__law_start, d__law_pull, d__law_pick, d__law_names, d__law_gcd, d__law_frac, d__law_text, d__law_kinds, d__law_same, d__law_sheet, d__law_room, d__law_column, d__law_some_fraction, d__law_lines, d_law, d_listing]
abbrev rw := PySem.Challenge.rw_lostland_k89_listing_of_rooms
abbrev R : PySem.W.OpenRow := PySem.W.OpenLaw.row rw
abbrev vw : Program := PySem.W.view R.prog [0, 52]
def loose0 : List Str := ["_wall", "MapError", "Missing", "InvalidName", "InvalidKind", "InvalidReading", "InvalidSheet", "InvalidMark", "DuplicateName", "TooMany", "UnknownSheet", "UnknownMark", "UnknownReading", "_is_number", "is_fraction", "is_spot", "fraction_text", "listing", "KINDS", "is_kind", "_LETTERS", "_MOST_READINGS", "_is_name", "_is_reading", "Sheet", "_MOST_SHEETS", "_MOST_MARKS", "_check_sheets", "_check_marks", "Room"]
def loose1 : List Str := ["_law_start", "_law_pull", "_law_pick", "_law_names", "_law_gcd", "_law_frac", "_law_text", "_law_kinds", "_law_same", "_law_sheet", "_law_room", "_law_column", "_law_some_fraction", "_law_lines"]
def loose : List Str := loose0 ++ loose1
abbrev hk : PySem.W.Hook := hookS 5 tab D
def ob (s : PySem.W.SharedT) : AlS := obsSG 5 tab D (HandSHeadRun.getT s)
theorem ob_eq (s : PySem.W.SharedT) : ob s = hk.obs s.abs := obsSG_eq (HandSHeadRun.getT_eq s)
theorem run (w : World) : HandSHeadRun.RunEqI R vw hk ob 12000 loose w := by
  unfold HandSHeadRun.RunEqI
  kernel_rfl
theorem hD : ∀ (j : Nat) (d : FnT), tab.fns[j]? = some d → ∃ e, D[j]? = some e ∧ OkD tab d e ∧ (d.star = none → plainD e (d.N.take d.fd.np) = true) ∧ (∀ kn, d.star = some kn → starArgs e.params kn (d.N.take d.fd.np) = true ∧ e.dfl = []) := by
  intro j d hd
  match j, hd with
  | 0, hd =>
    have e : f__is_number = d := Option.some.inj hd
    subst e
    exact ⟨d__is_number, rfl, ⟨rfl, rfl, rfl, rfl⟩, fun _ => by decide +kernel, fun kn z => by cases z⟩
  | 1, hd =>
    have e : f_is_fraction = d := Option.some.inj hd
    subst e
    exact ⟨d_is_fraction, rfl, ⟨rfl, rfl, rfl, rfl⟩, fun _ => by decide +kernel, fun kn z => by cases z⟩
  | 2, hd =>
    have e : f_is_spot = d := Option.some.inj hd
    subst e
    exact ⟨d_is_spot, rfl, ⟨rfl, rfl, rfl, rfl⟩, fun _ => by decide +kernel, fun kn z => by cases z⟩
  | 3, hd =>
    have e : f_fraction_text = d := Option.some.inj hd
    subst e
    exact ⟨d_fraction_text, rfl, ⟨rfl, rfl, rfl, rfl⟩, fun _ => by decide +kernel, fun kn z => by cases z⟩
  | 4, hd =>
    have e : f_is_kind = d := Option.some.inj hd
    subst e
    exact ⟨d_is_kind, rfl, ⟨rfl, rfl, rfl, rfl⟩, fun _ => by decide +kernel, fun kn z => by cases z⟩
  | 5, hd =>
    have e : f__is_name = d := Option.some.inj hd
    subst e
    exact ⟨d__is_name, rfl, ⟨rfl, rfl, rfl, rfl⟩, fun _ => by decide +kernel, fun kn z => by cases z⟩
  | 6, hd =>
    have e : f__is_reading = d := Option.some.inj hd
    subst e
    exact ⟨d__is_reading, rfl, ⟨rfl, rfl, rfl, rfl⟩, fun _ => by decide +kernel, fun kn z => by cases z⟩
  | 7, hd =>
    have e : f_Sheet___init__ = d := Option.some.inj hd
    subst e
    exact ⟨d_Sheet___init__, rfl, ⟨rfl, rfl, rfl, rfl⟩, fun _ => by decide +kernel, fun kn z => by cases z⟩
  | 8, hd =>
    have e : f_Sheet_readings = d := Option.some.inj hd
    subst e
    exact ⟨d_Sheet_readings, rfl, ⟨rfl, rfl, rfl, rfl⟩, fun _ => by decide +kernel, fun kn z => by cases z⟩
  | 9, hd =>
    have e : f_Sheet_marks = d := Option.some.inj hd
    subst e
    exact ⟨d_Sheet_marks, rfl, ⟨rfl, rfl, rfl, rfl⟩, fun _ => by decide +kernel, fun kn z => by cases z⟩
  | 10, hd =>
    have e : f__check_sheets = d := Option.some.inj hd
    subst e
    exact ⟨d__check_sheets, rfl, ⟨rfl, rfl, rfl, rfl⟩, fun _ => by decide +kernel, fun kn z => by cases z⟩
  | 11, hd =>
    have e : f__check_marks = d := Option.some.inj hd
    subst e
    exact ⟨d__check_marks, rfl, ⟨rfl, rfl, rfl, rfl⟩, fun _ => by decide +kernel, fun kn z => by cases z⟩
  | 12, hd =>
    have e : f_Room___init__ = d := Option.some.inj hd
    subst e
    exact ⟨d_Room___init__, rfl, ⟨rfl, rfl, rfl, rfl⟩, fun z => (by cases z), fun kn z => by cases z; exact ⟨by decide +kernel, rfl⟩⟩
  | 13, hd =>
    have e : f_Room_sheets = d := Option.some.inj hd
    subst e
    exact ⟨d_Room_sheets, rfl, ⟨rfl, rfl, rfl, rfl⟩, fun _ => by decide +kernel, fun kn z => by cases z⟩
  | 14, hd =>
    have e : f_Room_names = d := Option.some.inj hd
    subst e
    exact ⟨d_Room_names, rfl, ⟨rfl, rfl, rfl, rfl⟩, fun _ => by decide +kernel, fun kn z => by cases z⟩
  | 15, hd =>
    have e : f_Room_marks = d := Option.some.inj hd
    subst e
    exact ⟨d_Room_marks, rfl, ⟨rfl, rfl, rfl, rfl⟩, fun _ => by decide +kernel, fun kn z => by cases z⟩
  | 16, hd =>
    have e : f_Room_with_sheet = d := Option.some.inj hd
    subst e
    exact ⟨d_Room_with_sheet, rfl, ⟨rfl, rfl, rfl, rfl⟩, fun _ => by decide +kernel, fun kn z => by cases z⟩
  | 17, hd =>
    have e : f_Room___len__ = d := Option.some.inj hd
    subst e
    exact ⟨d_Room___len__, rfl, ⟨rfl, rfl, rfl, rfl⟩, fun _ => by decide +kernel, fun kn z => by cases z⟩
  | 18, hd =>
    have e : f__law_start = d := Option.some.inj hd
    subst e
    exact ⟨d__law_start, rfl, ⟨rfl, rfl, rfl, rfl⟩, fun _ => by decide +kernel, fun kn z => by cases z⟩
  | 19, hd =>
    have e : f__law_pull = d := Option.some.inj hd
    subst e
    exact ⟨d__law_pull, rfl, ⟨rfl, rfl, rfl, rfl⟩, fun _ => by decide +kernel, fun kn z => by cases z⟩
  | 20, hd =>
    have e : f__law_pick = d := Option.some.inj hd
    subst e
    exact ⟨d__law_pick, rfl, ⟨rfl, rfl, rfl, rfl⟩, fun _ => by decide +kernel, fun kn z => by cases z⟩
  | 21, hd =>
    have e : f__law_names = d := Option.some.inj hd
    subst e
    exact ⟨d__law_names, rfl, ⟨rfl, rfl, rfl, rfl⟩, fun _ => by decide +kernel, fun kn z => by cases z⟩
  | 22, hd =>
    have e : f__law_gcd = d := Option.some.inj hd
    subst e
    exact ⟨d__law_gcd, rfl, ⟨rfl, rfl, rfl, rfl⟩, fun _ => by decide +kernel, fun kn z => by cases z⟩
  | 23, hd =>
    have e : f__law_frac = d := Option.some.inj hd
    subst e
    exact ⟨d__law_frac, rfl, ⟨rfl, rfl, rfl, rfl⟩, fun _ => by decide +kernel, fun kn z => by cases z⟩
  | 24, hd =>
    have e : f__law_text = d := Option.some.inj hd
    subst e
    exact ⟨d__law_text, rfl, ⟨rfl, rfl, rfl, rfl⟩, fun _ => by decide +kernel, fun kn z => by cases z⟩
  | 25, hd =>
    have e : f__law_kinds = d := Option.some.inj hd
    subst e
    exact ⟨d__law_kinds, rfl, ⟨rfl, rfl, rfl, rfl⟩, fun _ => by decide +kernel, fun kn z => by cases z⟩
  | 26, hd =>
    have e : f__law_same = d := Option.some.inj hd
    subst e
    exact ⟨d__law_same, rfl, ⟨rfl, rfl, rfl, rfl⟩, fun _ => by decide +kernel, fun kn z => by cases z⟩
  | 27, hd =>
    have e : f__law_sheet = d := Option.some.inj hd
    subst e
    exact ⟨d__law_sheet, rfl, ⟨rfl, rfl, rfl, rfl⟩, fun _ => by decide +kernel, fun kn z => by cases z⟩
  | 28, hd =>
    have e : f__law_room = d := Option.some.inj hd
    subst e
    exact ⟨d__law_room, rfl, ⟨rfl, rfl, rfl, rfl⟩, fun _ => by decide +kernel, fun kn z => by cases z⟩
  | 29, hd =>
    have e : f__law_column = d := Option.some.inj hd
    subst e
    exact ⟨d__law_column, rfl, ⟨rfl, rfl, rfl, rfl⟩, fun _ => by decide +kernel, fun kn z => by cases z⟩
  | 30, hd =>
    have e : f__law_some_fraction = d := Option.some.inj hd
    subst e
    exact ⟨d__law_some_fraction, rfl, ⟨rfl, rfl, rfl, rfl⟩, fun _ => by decide +kernel, fun kn z => by cases z⟩
  | 31, hd =>
    have e : f__law_lines = d := Option.some.inj hd
    subst e
    exact ⟨d__law_lines, rfl, ⟨rfl, rfl, rfl, rfl⟩, fun _ => by decide +kernel, fun kn z => by cases z⟩
  | 32, hd =>
    have e : f_law = d := Option.some.inj hd
    subst e
    exact ⟨d_law, rfl, ⟨rfl, rfl, rfl, rfl⟩, fun _ => by decide +kernel, fun kn z => by cases z⟩
  | n + 33, hd => exact absurd (show (none : Option FnT) = some d from hd) (by simp)
theorem hG : ∀ (j : Nat) (d : GnT), tab.gens[j]? = some d → ∃ e, D[tab.fns.length + j]? = some e ∧ OkG d e := by
  intro j d hd
  match j, hd with
  | 0, hd =>
    have e : gf_listing = d := Option.some.inj hd
    subst e
    exact ⟨d_listing, rfl, rfl, rfl, rfl, by decide +kernel⟩
  | n + 1, hd => exact absurd (show (none : Option GnT) = some d from hd) (by simp)
theorem mdl {K : PySem.W.Frag} {h : Heap} {mg : Str → Option Value} (c : SaysS tab D K) (X : K.In h) (G : h.Ns mainGlobals mg) : Mdl (gam tab K) tab (tab.glb.map (·.2)) K mg :=
  mdl_of c X G rfl (by decide +kernel) (by decide +kernel) hD hG
end K89
end

section
set_option Elab.async false
set_option linter.all false
set_option maxRecDepth 100000
set_option maxHeartbeats 0
/-! K89E: the end: from the plain law to the statement. -/
namespace Sy
open PySem L2 PyProof.Rows He
theorem ints_reps {Γ : Tx} {Z : Addr → Prop} {S : Hp} : ∀ (ns : List Int), Reps Γ Z S (ns.map T.int) (ns.map V.int)
  | [] => reps_nil.mpr rfl
  | n :: ns => Reps.cons (by simp [Rep]) (ints_reps ns)
/-- the law's promise, from what the evaluator says -/
theorem spC_law {Γ : Tx} {K : PySem.W.Frag} {cf : List Ar → CR} {H : Hp} {a : Addr} {ns : List Int} {outs : List (Cell × Bool)} {E : XK} (hO : Only H) (hS : SqL K H a (ns.map V.int)) (nl : NoL K) (h : cf [.t (.lst (ns.map T.int))] = .ok (.t (.bl true)) outs) :
    spC Γ cf 1 [.ref a] H (fun v _ => v = .bl true) E := by
  have hs : strip H a = some (.lst (ns.map V.int)) := by
    rcases hS with (q | ⟨o, q⟩) | ⟨o, its, n, h1, h2, _⟩
    · exact strip_of q trivial
    · exact strip_frz q
    · exact absurd h2 (nl _ _ h1)
  have hok : ∀ b o u, H b = some (.frz o u) → noFrz u ∧ notIns u := fun b o u q => by
    rcases hO b with z | ⟨o', xs, z⟩
    · rw [q] at z; cases z
    · rw [q] at z; cases z; exact ⟨trivial, trivial⟩
  refine ⟨fun b => b = a, [], [.t (.lst (ns.map T.int))], ⟨rfl, List.nodup_nil, fun b hb => ?_, hok, fun n b e q => by simp at q⟩, ⟨.ref a, [], rfl, ?_, rfl⟩, rfl, ?_⟩
  · rw [hb]
    intro z
    rw [strip_none.mpr z] at hs
    cases hs
  · show Rep Γ (fun b => b = a) (strip H) (.lst (ns.map T.int)) (.ref a)
    simp only [Rep]
    exact ⟨a, _, rfl, rfl, hs, ints_reps ns⟩
  · rw [h]
    intro v H' Z' ad' μ' w s x r e
    cases w with
    | t t =>
      have e : CR.ok (.t t) (outsOf 0 μ') = .ok (.t (.bl true)) outs := e
      injection e with e1 e2
      injection e1 with e1
      subst e1
      simpa [RepW, Rep] using r
    | loc n =>
      exfalso
      unfold handB at e
      simp only at e
      cases q : μ'[n]? with
      | none => rw [q] at e; cases e
      | some en =>
        rw [q] at e
        simp only at e
        split at e
        · injection e with e1 e2
          injection e1 with e1
          cases hc : en.c <;> rw [hc] at e1 <;> cases e1
        · injection e with e1 e2
          cases e1
end Sy
namespace K89
open PySem L2 PyProof.Rows Sy He
abbrev GG : List T := tab.glb.map (·.2)
/-- what is left to be shown: the plain law -/
def Plain : Prop := ∀ ns : List Int, ns.length ≤ 63 → ∃ outs, (tab.lv 1099511627776 GG 12).call 32 [.t (.lst (ns.map T.int))] = .ok (.t (.bl true)) outs
end K89
open PySem PySem.W PySem.Calls PyProof.Rows in
theorem K89.holds (pl : K89.Plain) : PySem.Challenge.rw_lostland_k89_listing_of_rooms.Holds := by
  w_on; o_law
  refine HandSHeadRun.head_imp (r := K89.R) (q := K89.vw) (H := K89.hk) (ob := K89.ob) (M := 12000) (loose := K89.loose) (d := HandSHeadRun.topDef K89.R.prog 52) (kwd := []) K89.ob_eq K89.run
    (by kernel_rfl) (by kernel_rfl) (by kernel_rfl) (by rfl) (by first | assumption | decide +kernel) (by decide +kernel) ⟨rfl, rfl, rfl, rfl, rfl, by decide +kernel⟩ ?hw ?hc
  case hw => w_witness2
  case hc =>
    refine L2.walk_ofE (l := PySem.Challenge.rw_lostland_k89_listing_of_rooms) (n := 63) (k := 24) (x := "_law_script") (CX := C8.CX0) rfl (by decide) (by kernel_rfl) ⟨rfl, by decide, by decide⟩ ?F (fun _ _ _ _ z => z)
    intro w mg fa h Y G hmg0
    obtain ⟨K, KX, nl, c⟩ := Y
    have hmg : mg ("law" : PySem.Str) = some (.ref fa) := by
      have e : (HandSHeadRun.topDef K89.R.prog 52).name = ("law" : PySem.Str) := by kernel_rfl
      rw [← e]
      exact hmg0
    have M := K89.mdl c KX G
    obtain ⟨fdd, F⟩ := c.def_ (i := 32) (d := K89.d_law) rfl
    have e := hmg.symm.trans (Sy.SaysS.glo c KX G (j := 32) (d := K89.f_law) rfl rfl)
    cases e
    have b := L2.FunD.bindsA (ps := ["_law_script"]) F fun _ _ _ _ _ _ us hl => match us, hl with | [_], _ => rfl
    refine ⟨K, fdd, Sy.spC (Sy.gam K89.tab K) ((K89.tab.lv 1099511627776 K89.GG 12).call 32) 1, KX, fun s u => b s [u] rfl, fun H a ns hl hO hS => ?_, fun base hK hG => ?_⟩
    · obtain ⟨outs, q⟩ := pl ns hl
      exact Sy.spC_law hO hS nl q
    · exact (Sy.fn_all (P := (PySem.Challenge.rw_lostland_k89_listing_of_rooms).prog) (w := w) (base := base) (F := 1099511627776) M K89.ok_tab 12 12 (Nat.le_refl _)).1 32 K89.f_law rfl rfl F
end

section
set_option Elab.async false
set_option linter.all false
set_option maxRecDepth 100000
/-! SyWp: the evaluator, read from the end: rules. -/
namespace Sy.Wp
open PySem L2
theorem ex1 {α : Type} {A E : α → Prop} {a : α} (h1 : A a) (h2 : E a) : ∃ a, A a ∧ E a := ⟨a, h1, h2⟩
theorem ex2 {α β : Type} {A B E : α → β → Prop} {a : α} {b : β} (h1 : A a b) (h2 : B a b) (h3 : E a b) : ∃ a b, A a b ∧ B a b ∧ E a b := ⟨a, b, h1, h2, h3⟩
theorem ex3 {α β γ : Type} {A B D E : α → β → γ → Prop} {a : α} {b : β} {c : γ} (h1 : A a b c) (h2 : B a b c) (h3 : D a b c) (h4 : E a b c) : ∃ a b c, A a b c ∧ B a b c ∧ D a b c ∧ E a b c := ⟨a, b, c, h1, h2, h3, h4⟩
theorem ex4 {α β γ δ : Type} {A B D E : α → β → γ → δ → Prop} {a : α} {b : β} {c : γ} {d : δ} (h1 : A a b c d) (h2 : B a b c d) (h3 : D a b c d) (h4 : E a b c d) : ∃ a b c d, A a b c d ∧ B a b c d ∧ D a b c d ∧ E a b c d := ⟨a, b, c, d, h1, h2, h3, h4⟩
theorem exA {n : Nat} {c : Nat} {xs : List T} {p : Nat} {w : W} {μ : Sto} {al : List (Nat × Nat)} {E1 E2 : Nat → Nat → List T → Nat → Prop} (h1 : cellOf w μ = some (n, .obj c xs)) (h2 : al.lookup c = some p) (h3 : p = xs.length) (h4 : E2 n c xs p) :
    ∃ n c xs p, cellOf w μ = some (n, .obj c xs) ∧ al.lookup c = some p ∧ ((p < xs.length ∧ E1 n c xs p) ∨ (p = xs.length ∧ E2 n c xs p)) := ⟨n, c, xs, p, h1, h2, .inr ⟨h3, h4⟩⟩
theorem br_t {c : Bool} {A B : Prop} (h : c = true) (a : A) : (c = true → A) ∧ (c = false → B) := ⟨fun _ => a, fun z => (by rw [h] at z; cases z)⟩
theorem br_f {c : Bool} {A B : Prop} (h : c = false) (b : B) : (c = true → A) ∧ (c = false → B) := ⟨fun z => (by rw [h] at z; cases z), fun _ => b⟩
theorem bf_t {c : Bool} {A B : Prop} (h : c = true) (a : A) : (c = false → B) ∧ (c = true → A) := ⟨fun z => (by rw [h] at z; cases z), fun _ => a⟩
theorem bf_f {c : Bool} {A B : Prop} (h : c = false) (b : B) : (c = false → B) ∧ (c = true → A) := ⟨fun _ => b, fun z => (by rw [h] at z; cases z)⟩
def RQ {α : Type} (r : R α) (Q : α → Sto → Prop) : Prop := match r with
  | .ok a μ => Q a μ
  | .exc _ _ => False
  | .bad => False
structure OK where
  nx : Env → Sto → Prop := fun _ _ => False
  rt : W → Sto → Prop := fun _ _ => False
  bk : Env → Sto → Prop := fun _ _ => False
  ct : Env → Sto → Prop := fun _ _ => False
def OQ (o : O) (K : OK) : Prop := match o with
  | .nx ρ μ => K.nx ρ μ
  | .rt w μ => K.rt w μ
  | .bk ρ μ => K.bk ρ μ
  | .ct ρ μ => K.ct ρ μ
  | .ex _ _ => False
  | .bad => False
section
variable {α β : Type} {C : Ctx} {ρ : Env} {μ : Sto} {K : OK}
theorem RQ.ok {a : α} {Q : α → Sto → Prop} (h : Q a μ) : RQ (.ok a μ) Q := h
theorem RQ.bind {r : R α} {f : α → Sto → R β} {Q : β → Sto → Prop} (h : RQ r fun a μ => RQ (f a μ) Q) : RQ (r.bind f) Q := by cases r <;> exact h
theorem RQ.mono {r : R α} {Q Q' : α → Sto → Prop} (h : RQ r Q) (q : ∀ a μ, Q a μ → Q' a μ) : RQ r Q' := by
  cases r with
  | ok a μ => exact q a μ h
  | exc _ _ => exact h
  | bad => exact h
theorem OQ.out {r : R α} {f : α → Sto → O} (h : RQ r fun a μ => OQ (f a μ) K) : OQ (r.out f) K := by cases r <;> exact h
theorem OQ.seq {o : O} {f : Env → Sto → O} (h : OQ o { K with nx := fun ρ μ => OQ (f ρ μ) K }) : OQ (o.seq f) K := by cases o <;> exact h
theorem OQ.mono {o : O} {K' : OK} (h : OQ o K) (q1 : ∀ ρ μ, K.nx ρ μ → K'.nx ρ μ) (q2 : ∀ w μ, K.rt w μ → K'.rt w μ) (q3 : ∀ ρ μ, K.bk ρ μ → K'.bk ρ μ) (q4 : ∀ ρ μ, K.ct ρ μ → K'.ct ρ μ) : OQ o K' := by
  cases o with
  | nx ρ μ => exact q1 _ _ h
  | rt w μ => exact q2 _ _ h
  | bk ρ μ => exact q3 _ _ h
  | ct ρ μ => exact q4 _ _ h
  | ex _ _ => exact h
  | bad => exact h
theorem OQ.cut {o : O} (P : Env → Sto → Prop) (h : OQ o { nx := P }) (q : ∀ ρ μ, P ρ μ → K.nx ρ μ) : OQ o K := OQ.mono h q (fun _ _ h => h.elim) (fun _ _ h => h.elim) (fun _ _ h => h.elim)
variable {Q : W → Sto → Prop} {QB : Bool → Sto → Prop} {QL : List W → Sto → Prop} {QT : List T → Sto → Prop} {QG : Env → Sto → Prop} {QS : Str → Sto → Prop}
/-! values -/
theorem fin_t {k : Bool} {v : T} (h : Q (.t v) μ) : RQ (fin k (.t v) μ) Q := h
theorem fin_f {c : Cell} (h : Q (.t c.tree) μ) : RQ (fin false (.c c) μ) Q := h
theorem fin_c {c : Cell} (h : Q (.loc μ.length) (μ ++ [⟨c, false, false⟩])) : RQ (fin true (.c c) μ) Q := h
theorem toT_t {v : T} {Q : T → Sto → Prop} (h : Q v μ) : RQ (toT (.t v) μ) Q := h
theorem toT_l {n : Nat} {e : En} {Q : T → Sto → Prop} (e1 : μ[n]? = some e) (h : Q e.c.tree (μ.set n ⟨e.c, e.lk, true⟩)) : RQ (toT (.loc n) μ) Q := by
  show RQ (match μ[n]? with | some e => R.ok e.c.tree (μ.set n ⟨e.c, e.lk, true⟩) | none => .bad) Q
  rw [e1]; exact h
theorem toTs_n {Q : List T → Sto → Prop} (h : Q [] μ) : RQ (toTs [] μ) Q := h
theorem toTs_c {w : W} {ws : List W} {Q : List T → Sto → Prop} (h : RQ (toT w μ) fun v μ => RQ (toTs ws μ) fun vs μ => Q (v :: vs) μ) : RQ (toTs (w :: ws) μ) Q := by
  unfold toTs
  exact RQ.bind (RQ.mono h fun v μ q => RQ.bind q)
theorem ofNw_s {k : Bool} {o : Option Nw} {n : Nw} (e : o = some n) (h : RQ (fin k n μ) Q) : RQ (ofNw k o μ) Q := by rw [e]; exact h
theorem ofO_s {o : Option α} {a : α} {Q : α → Sto → Prop} (e : o = some a) (h : Q a μ) : RQ (ofO o μ) Q := by rw [e]; exact h
/-! expressions -/
theorem e_var {i : Nat} {w : W} (e : ρ[i]? = some (some w)) (h : Q w μ) : RQ (evE C (.var i) ρ μ) Q := by rw [evE, e]; exact h
theorem e_cst {t : T} (h : Q (.t t) μ) : RQ (evE C (.cst t) ρ μ) Q := by rw [evE]; exact h
theorem e_glb {j : Nat} {t : T} (e : C.glb[j]? = some t) (h : Q (.t t) μ) : RQ (evE C (.glb j) ρ μ) Q := by rw [evE, e]; exact h
theorem e_op2 {o : Bop} {k : Bool} {a b : Ex} (h : RQ (evE C a ρ μ) fun x μ => RQ (evE C b ρ μ) fun y μ => ∃ s t n, view x μ = some s ∧ view y μ = some t ∧ op2 o s t = some n ∧ RQ (fin k n μ) Q) : RQ (evE C (.op2 o k a b) ρ μ) Q := by
  rw [evE]
  refine RQ.bind (RQ.mono h fun x μ q => RQ.bind (RQ.mono q fun y μ ⟨s, t, n, e1, e2, e3, q⟩ => ?_))
  rw [e1, e2]
  exact ofNw_s e3 q
theorem e_neg {a : Ex} (h : RQ (evE C a ρ μ) fun x μ => ∃ i, x = .t (.int i) ∧ Q (.t (.int (-i))) μ) : RQ (evE C (.neg a) ρ μ) Q := by
  rw [evE]
  exact RQ.bind (RQ.mono h fun x μ ⟨i, e, q⟩ => by subst e; exact q)
theorem e_nt {a : Ex} (h : RQ (evE C a ρ μ) fun x μ => ∃ b, x = .t (.bl b) ∧ Q (.t (.bl (!b))) μ) : RQ (evE C (.nt a) ρ μ) Q := by
  rw [evE]
  exact RQ.bind (RQ.mono h fun x μ ⟨i, e, q⟩ => by subst e; exact q)
theorem e_ife {c a b : Ex} (h : RQ (evT C c ρ μ) fun z μ => (z = true → RQ (evE C a ρ μ) Q) ∧ (z = false → RQ (evE C b ρ μ) Q)) : RQ (evE C (.ife c a b) ρ μ) Q := by
  rw [evE]
  refine RQ.bind (RQ.mono h fun z μ q => ?_)
  cases z with
  | true => exact q.1 rfl
  | false => exact q.2 rfl
theorem e_and {es : List Ex} (h : RQ (evAnd C es ρ μ) Q) : RQ (evE C (.and_ es) ρ μ) Q := by rw [evE]; exact h
theorem e_or {es : List Ex} (h : RQ (evOr C es ρ μ) Q) : RQ (evE C (.or_ es) ρ μ) Q := by rw [evE]; exact h
theorem a_one {e : Ex} (h : RQ (evE C e ρ μ) Q) : RQ (evAnd C [e] ρ μ) Q := by rw [evAnd]; exact h
theorem a_two {e e' : Ex} {es : List Ex} (h : RQ (evE C e ρ μ) fun x μ => ∃ b, x = .t (.bl b) ∧ (b = true → RQ (evAnd C (e' :: es) ρ μ) Q) ∧ (b = false → Q (.t (.bl false)) μ)) : RQ (evAnd C (e :: e' :: es) ρ μ) Q := by
  rw [evAnd]
  refine RQ.bind (RQ.mono h fun x μ ⟨b, e, q1, q2⟩ => ?_)
  subst e
  cases b with
  | true => exact q1 rfl
  | false => exact q2 rfl
theorem o_one {e : Ex} (h : RQ (evE C e ρ μ) Q) : RQ (evOr C [e] ρ μ) Q := by rw [evOr]; exact h
theorem o_two {e e' : Ex} {es : List Ex} (h : RQ (evE C e ρ μ) fun x μ => ∃ b, x = .t (.bl b) ∧ (b = false → RQ (evOr C (e' :: es) ρ μ) Q) ∧ (b = true → Q (.t (.bl true)) μ)) : RQ (evOr C (e :: e' :: es) ρ μ) Q := by
  rw [evOr]
  refine RQ.bind (RQ.mono h fun x μ ⟨b, e, q1, q2⟩ => ?_)
  subst e
  cases b with
  | false => exact q1 rfl
  | true => exact q2 rfl
theorem e_cmp {o : Cop} {a b : Ex} (h : RQ (evE C a ρ μ) fun x μ => RQ (evE C b ρ μ) fun y μ => ∃ s t z, view x μ = some s ∧ view y μ = some t ∧ cmpT o s t = some z ∧ Q (.t (.bl z)) μ) : RQ (evE C (.cmp o a b) ρ μ) Q := by
  rw [evE]
  refine RQ.bind (RQ.mono h fun x μ q => RQ.bind (RQ.mono q fun y μ ⟨s, t, n, e1, e2, e3, q⟩ => ?_))
  rw [e1, e2]
  refine RQ.bind ?_
  rw [e3]; exact q
theorem e_chn {o p : Cop} {a b c : Ex} (h : RQ (evE C a ρ μ) fun x μ => RQ (evE C b ρ μ) fun y μ => ∃ s t z, view x μ = some s ∧ view y μ = some t ∧ cmpT o s t = some z ∧
    (z = true → RQ (evE C c ρ μ) fun w μ => ∃ t u z, view y μ = some t ∧ view w μ = some u ∧ cmpT p t u = some z ∧ Q (.t (.bl z)) μ) ∧ (z = false → Q (.t (.bl false)) μ)) : RQ (evE C (.chn o p a b c) ρ μ) Q := by
  rw [evE]
  refine RQ.bind (RQ.mono h fun x μ q => RQ.bind (RQ.mono q fun y μ ⟨s, t, n, e1, e2, e3, q1, q2⟩ => ?_))
  rw [e1, e2]
  show RQ (match cmpT o s t with | some true => _ | some false => _ | none => _) Q
  rw [e3]
  cases n with
  | false => exact q2 rfl
  | true =>
    refine RQ.bind (RQ.mono (q1 rfl) fun w μ ⟨t, u, z, f1, f2, f3, q⟩ => ?_)
    rw [f1, f2]
    refine RQ.bind ?_
    rw [f3]; exact q
theorem l_nil (h : QL [] μ) : RQ (evL C [] ρ μ) QL := by rw [evL]; exact h
theorem l_cons {e : Ex} {es : List Ex} (h : RQ (evE C e ρ μ) fun w μ => RQ (evL C es ρ μ) fun ws μ => QL (w :: ws) μ) : RQ (evL C (e :: es) ρ μ) QL := by
  rw [evL]
  exact RQ.bind (RQ.mono h fun w μ q => RQ.bind q)
theorem e_tup {es : List Ex} (h : RQ (evL C es ρ μ) fun ws μ => RQ (toTs ws μ) fun vs μ => vs.length ≤ sizeLine ∧ Q (.t (.tup vs)) μ) : RQ (evE C (.tup es) ρ μ) Q := by
  rw [evE]
  refine RQ.bind (RQ.mono h fun ws μ q => RQ.bind (RQ.mono q fun vs μ ⟨q1, q2⟩ => ?_))
  rw [if_pos q1]; exact q2
theorem e_lst {k : Bool} {es : List Ex} (h : RQ (evL C es ρ μ) fun ws μ => RQ (toTs ws μ) fun vs μ => vs.length ≤ sizeLine ∧ RQ (fin k (.c (.lst vs)) μ) Q) : RQ (evE C (.lst k es) ρ μ) Q := by
  rw [evE]
  refine RQ.bind (RQ.mono h fun ws μ q => RQ.bind (RQ.mono q fun vs μ ⟨q1, q2⟩ => ?_))
  rw [if_pos q1]; exact q2
theorem e_dct {k : Bool} (h : RQ (fin k (.c (.dct [] [])) μ) Q) : RQ (evE C (.dct k) ρ μ) Q := by rw [evE]; exact h
theorem e_idx {a i : Ex} (h : RQ (evE C a ρ μ) fun x μ => RQ (evE C i ρ μ) fun y μ => ∃ s t v, view x μ = some s ∧ view y μ = some t ∧ idxT s t = some v ∧ Q (.t v) μ) : RQ (evE C (.idx a i) ρ μ) Q := by
  rw [evE]
  refine RQ.bind (RQ.mono h fun x μ q => RQ.bind (RQ.mono q fun y μ ⟨s, t, n, e1, e2, e3, q⟩ => ?_))
  rw [e1, e2]
  refine RQ.bind ?_
  rw [e3]; exact q
theorem p_non {Q : Option Int → Sto → Prop} (h : Q none μ) : RQ (evP C (.cst .non) ρ μ) Q := by rw [evP]; exact h
theorem p_ex {e : Ex} {Q : Option Int → Sto → Prop} (hne : evP C e ρ μ = (evE C e ρ μ).bind fun w μ => ofO (prt w) μ) (h : RQ (evE C e ρ μ) fun w μ => ∃ i, w = .t (.int i) ∧ Q (some i) μ) : RQ (evP C e ρ μ) Q := by
  rw [hne]
  exact RQ.bind (RQ.mono h fun w μ ⟨i, e, q⟩ => by subst e; exact q)
theorem e_slc {k : Bool} {a lo hi : Ex} (h : RQ (evE C a ρ μ) fun x μ => RQ (evP C lo ρ μ) fun lo μ => RQ (evP C hi ρ μ) fun hi μ => ∃ s n, view x μ = some s ∧ slcT s lo hi = some n ∧ RQ (fin k n μ) Q) : RQ (evE C (.slc k a lo hi) ρ μ) Q := by
  rw [evE]
  refine RQ.bind (RQ.mono h fun x μ q => RQ.bind (RQ.mono q fun lo μ q => RQ.bind (RQ.mono q fun hi μ ⟨s, n, e1, e2, q⟩ => ?_)))
  rw [e1]
  exact ofNw_s e2 q
theorem e_att {al : List (Nat × Nat)} {a : Ex} (h : RQ (evE C a ρ μ) fun x μ => ∃ c xs p v, view x μ = some (.obj c xs) ∧ al.lookup c = some p ∧ xs[p]? = some v ∧ Q (.t v) μ) : RQ (evE C (.att al a) ρ μ) Q := by
  rw [evE]
  refine RQ.bind (RQ.mono h fun x μ ⟨c, xs, p, v, e1, e2, e3, q⟩ => ?_)
  rw [e1]
  show RQ (match al.lookup c with | some p => _ | none => _) Q
  rw [e2]
  show RQ (match xs[p]? with | some v => _ | none => _) Q
  rw [e3]; exact q
theorem e_isi {cs : List Cl} {a : Ex} (h : RQ (evE C a ρ μ) fun x μ => ∃ s z, view x μ = some s ∧ isiAny s cs = some z ∧ Q (.t (.bl z)) μ) : RQ (evE C (.isi cs a) ρ μ) Q := by
  rw [evE]
  refine RQ.bind (RQ.mono h fun x μ ⟨s, z, e1, e2, q⟩ => ?_)
  rw [e1]
  refine RQ.bind ?_
  rw [e2]; exact q
theorem e_blt {k : Bool} {f : Bf} {es : List Ex} (h : RQ (evL C es ρ μ) fun ws μ => ∃ vs n, views ws μ = some vs ∧ bltT f vs = some n ∧ RQ (fin k n μ) Q) : RQ (evE C (.blt k f es) ρ μ) Q := by
  rw [evE]
  refine RQ.bind (RQ.mono h fun ws μ ⟨vs, n, e1, e2, q⟩ => ?_)
  rw [e1]
  exact ofNw_s e2 q
theorem e_bmt {k : Bool} {f : Bm} {es : List Ex} (h : RQ (evL C es ρ μ) fun ws μ => ∃ vs n, views ws μ = some vs ∧ bmT f vs = some n ∧ RQ (fin k n μ) Q) : RQ (evE C (.bmt k f es) ρ μ) Q := by
  rw [evE]
  refine RQ.bind (RQ.mono h fun ws μ ⟨vs, n, e1, e2, q⟩ => ?_)
  rw [e1]
  exact ofNw_s e2 q
theorem evC_s {k : Bool} {f : Nat} {ws : List W} {as : List Ar} {ns : List Nat} {r : Ar} {outs : List (Cell × Bool)} (e1 : arsOf ws μ = some (as, ns)) (e2 : ns.Nodup) (e3 : C.call f as = .ok r outs) (h : RQ (finA k r (putBack ns outs μ)) Q) : RQ (evC C k f ws μ) Q := by
  unfold evC
  rw [e1]
  show RQ (if ns.Nodup then _ else _) Q
  rw [if_pos e2, e3]; exact h
theorem finA_t {k : Bool} {v : T} (h : Q (.t v) μ) : RQ (finA k (.t v) μ) Q := h
theorem finA_c {k : Bool} {c : Cell} (h : RQ (fin k (.c c) μ) Q) : RQ (finA k (.c c) μ) Q := h
theorem evC_2 {k : Bool} {f : Nat} {ws : List W} {as : List Ar} {ns : List Nat} {r : Ar} {outs : List (Cell × Bool)} (μ' : Sto) (e3 : C.call f as = .ok r outs) (e1 : arsOf ws μ = some (as, ns)) (e2 : ns.Nodup) (e4 : putBack ns outs μ = μ') (h : RQ (finA k r μ') Q) : RQ (evC C k f ws μ) Q := evC_s e1 e2 e3 (e4 ▸ h)
theorem e_call {k : Bool} {f : Nat} {es : List Ex} (h : RQ (evL C es ρ μ) fun ws μ => RQ (evC C k f ws μ) Q) : RQ (evE C (.call k f es) ρ μ) Q := by
  rw [evE]
  exact RQ.bind h
theorem evN_s {k : Bool} {c f : Nat} {ws : List W} {as : List Ar} {ns : List Nat} {o : Cell} {z : Bool} {outs : List (Cell × Bool)} (e1 : arsOf ws μ = some (as, ns)) (e2 : ns.Nodup) (e3 : C.call f (.c (.obj c []) :: as) = .ok (.t .non) ((o, z) :: outs)) (h : RQ (fin (k && !z) (.c o) (putBack ns outs μ)) Q) : RQ (evN C k c f ws μ) Q := by
  unfold evN
  rw [e1]
  show RQ (if ns.Nodup then _ else _) Q
  rw [if_pos e2, e3]; exact h
theorem e_new {k : Bool} {c f : Nat} {es : List Ex} (h : RQ (evL C es ρ μ) fun ws μ => RQ (evN C k c f ws μ) Q) : RQ (evE C (.new k c f es) ρ μ) Q := by
  rw [evE]
  exact RQ.bind h
theorem e_newV0 {k : Bool} {c f : Nat} {es : List Ex} {kv : Ex} (h : RQ (evL C es ρ μ) fun ws μ => RQ (toTs ws μ) fun vs μ => RQ (evE C kv ρ μ) fun z μ => vs.length ≤ sizeLine ∧ RQ (evN C k c f [z, .t (.tup vs)] μ) Q) : RQ (evE C (.newV k c f false es kv) ρ μ) Q := by
  rw [evE]
  refine RQ.bind (RQ.mono h fun ws μ q => RQ.bind (RQ.mono q fun vs μ q => RQ.bind (RQ.mono q fun z μ ⟨q1, q2⟩ => ?_)))
  rw [if_pos q1]; exact q2
theorem e_newV1 {k : Bool} {c f : Nat} {es : List Ex} {kv : Ex} (h : RQ (evL C es ρ μ) fun ws μ => RQ (toTs ws μ) fun vs μ => RQ (evE C kv ρ μ) fun z μ => ∃ v xs, vs = [v] ∧ seqT v = some xs ∧ xs.length ≤ sizeLine ∧ RQ (evN C k c f [z, .t (.tup xs)] μ) Q) : RQ (evE C (.newV k c f true es kv) ρ μ) Q := by
  rw [evE]
  refine RQ.bind (RQ.mono h fun ws μ q => RQ.bind (RQ.mono q fun vs μ q => RQ.bind (RQ.mono q fun z μ ⟨v, xs, e1, e2, q1, q2⟩ => ?_)))
  subst e1
  show RQ (match seqT v with | some xs => _ | none => _) Q
  rw [e2]
  show RQ (if xs.length ≤ sizeLine then _ else _) Q
  rw [if_pos q1]; exact q2
theorem e_lenO {al : List (Nat × Nat)} {e : Ex} (h : RQ (evE C e ρ μ) fun w μ => ∃ c f, clsOf (view w μ) = some c ∧ al.lookup c = some f ∧ RQ (evC C false f [w] μ) fun r μ => ∃ n, r = .t (.int n) ∧ 0 ≤ n ∧ n < 2 ^ 62 ∧ Q (.t (.int n)) μ) : RQ (evE C (.lenO al e) ρ μ) Q := by
  rw [evE]
  refine RQ.bind (RQ.mono h fun w μ ⟨c, f, e1, e2, q⟩ => ?_)
  rw [e1]
  show RQ (match al.lookup c with | some f => _ | none => _) Q
  rw [e2]
  refine RQ.bind (RQ.mono q fun r μ ⟨n, e, h1, h2, q⟩ => ?_)
  subst e
  show RQ (if 0 ≤ n ∧ n < 2 ^ 62 then _ else _) Q
  rw [if_pos ⟨h1, h2⟩]; exact q
theorem e_mth {k : Bool} {al : List (Nat × Nat)} {o : Ex} {es : List Ex} (h : RQ (evE C o ρ μ) fun w μ => ∃ c f, clsOf (view w μ) = some c ∧ al.lookup c = some f ∧ RQ (evL C es ρ μ) fun ws μ => RQ (evC C k f (w :: ws) μ) Q) : RQ (evE C (.mth k al o es) ρ μ) Q := by
  rw [evE]
  refine RQ.bind (RQ.mono h fun w μ ⟨c, f, e1, e2, q⟩ => ?_)
  rw [e1]
  show RQ (match al.lookup c with | some f => _ | none => _) Q
  rw [e2]
  exact RQ.bind q
theorem e_comp {k : Bool} {dr : List Nat} {it : It} {tg : Tg} {ifs : List Ex} {e : Ex} (h : RQ (evI C it ρ μ) fun xs μ => RQ (gath (cbody dr (asg C tg) (tsAnd C ifs) (frE (evE C e)) ρ) xs μ) fun vs μ => vs.length ≤ sizeLine ∧ RQ (fin k (.c (.lst vs)) μ) Q) : RQ (evE C (.comp k dr it tg ifs e) ρ μ) Q := by
  rw [evE]
  refine RQ.bind (RQ.mono h fun xs μ q => RQ.bind (RQ.mono q fun vs μ ⟨q1, q2⟩ => ?_))
  rw [if_pos q1]; exact q2
theorem e_dcomp2 {k : Bool} {dr : List Nat} {it it2 : It} {tg tg2 : Tg} {ifs : List Ex} {e v : Ex} (h : RQ (evI C it ρ μ) fun xs μ => RQ (gath2 (obody dr (tgS tg2) (asg C tg) (asg C tg2) (evI C it2) (tsAnd C ifs) (frP (evE C e) (evE C v)) ρ) xs μ) fun ps μ => RQ (KD k [] ps μ) Q) : RQ (evE C (.dcomp2 k dr it tg it2 tg2 ifs e v) ρ μ) Q := by
  rw [evE]
  exact RQ.bind (RQ.mono h fun xs μ q => RQ.bind q)
theorem e_fst {es : List Ex} (h : RQ (evF C es Str.empty ρ μ) fun x μ => Q (.t (.str x)) μ) : RQ (evE C (.fst es) ρ μ) Q := by
  rw [evE]
  exact RQ.bind h
theorem f_nil {acc : Str} (h : QS acc μ) : RQ (evF C [] acc ρ μ) QS := by rw [evF]; exact h
theorem f_cons {e : Ex} {es : List Ex} {acc : Str} (h : RQ (evE C e ρ μ) fun w μ => ∃ y, w = .t (.str y) ∧ (acc ++ y).length ≤ sizeLine ∧ RQ (evF C es (acc ++ y) ρ μ) QS) : RQ (evF C (e :: es) acc ρ μ) QS := by
  rw [evF]
  refine RQ.bind (RQ.mono h fun w μ ⟨y, e, q1, q2⟩ => ?_)
  subst e
  show RQ (if _ then _ else _) QS
  rw [if_pos q1]; exact q2
theorem e_fm {f : Fs} {e : Ex} (h : RQ (evE C e ρ μ) fun x μ => ∃ s y, view x μ = some s ∧ fmT f s = some y ∧ Q (.t (.str y)) μ) : RQ (evE C (.fm f e) ρ μ) Q := by
  rw [evE]
  refine RQ.bind (RQ.mono h fun x μ ⟨s, y, e1, e2, q⟩ => ?_)
  rw [e1]
  refine RQ.bind ?_
  rw [e2]; exact q
theorem e_lstg {k : Bool} {f : Nat} {es : List Ex} (h : RQ (evL C es ρ μ) fun ws μ => RQ (toTs ws μ) fun ts μ => ∃ ys, C.gen f ts = some ys ∧ ys.length < sizeLine ∧ RQ (fin k (.c (.lst ys)) μ) Q) : RQ (evE C (.lstg k f es) ρ μ) Q := by
  rw [evE]
  refine RQ.bind (RQ.mono h fun ws μ q => RQ.bind (RQ.mono q fun ts μ ⟨ys, e, q1, q2⟩ => ?_))
  rw [e]
  show RQ (if _ then _ else _) Q
  rw [if_pos q1]; exact q2
/-! tests -/
theorem t_nt {a : Ex} (h : RQ (evT C a ρ μ) fun b μ => QB (!b) μ) : RQ (evT C (.nt a) ρ μ) QB := by
  rw [evT]; exact RQ.bind h
theorem t_and {es : List Ex} (h : RQ (tsAnd C es ρ μ) QB) : RQ (evT C (.and_ es) ρ μ) QB := by rw [evT]; exact h
theorem t_or {es : List Ex} (h : RQ (tsOr C es ρ μ) QB) : RQ (evT C (.or_ es) ρ μ) QB := by rw [evT]; exact h
theorem t_e {e : Ex} (he : evT C e ρ μ = asT (evE C e ρ μ)) (h : RQ (evE C e ρ μ) fun x μ => ∃ s b, view x μ = some s ∧ truT s = some b ∧ QB b μ) : RQ (evT C e ρ μ) QB := by
  rw [he]
  unfold asT
  refine RQ.bind (RQ.mono h fun x μ ⟨s, b, e1, e2, q⟩ => ?_)
  rw [e1]
  exact ofO_s e2 q
theorem t_cmp {o : Cop} {a b : Ex} (h : RQ (evE C a ρ μ) fun x μ => RQ (evE C b ρ μ) fun y μ => ∃ s t z, view x μ = some s ∧ view y μ = some t ∧ cmpT o s t = some z ∧ QB z μ) : RQ (evT C (.cmp o a b) ρ μ) QB :=
  t_e (by rw [evT] <;> simp) (e_cmp (RQ.mono h fun x μ q => RQ.mono q fun y μ ⟨s, t, z, e1, e2, e3, q⟩ => ⟨s, t, z, e1, e2, e3, _, _, rfl, rfl, q⟩))
theorem t_var {i : Nat} {w : W} (e : ρ[i]? = some (some w)) (h : ∃ s b, view w μ = some s ∧ truT s = some b ∧ QB b μ) : RQ (evT C (.var i) ρ μ) QB := t_e (by rw [evT] <;> simp) (e_var e h)
theorem t_cst {t : T} (h : ∃ b, truT t = some b ∧ QB b μ) : RQ (evT C (.cst t) ρ μ) QB := t_e (by rw [evT] <;> simp) (e_cst (by obtain ⟨b, h1, h2⟩ := h; exact ⟨t, b, rfl, h1, h2⟩))
theorem t_isi {cs : List Cl} {a : Ex} (h : RQ (evE C a ρ μ) fun x μ => ∃ s z, view x μ = some s ∧ isiAny s cs = some z ∧ QB z μ) : RQ (evT C (.isi cs a) ρ μ) QB :=
  t_e (by rw [evT] <;> simp) (e_isi (RQ.mono h fun x μ ⟨s, z, e1, e2, q⟩ => ⟨s, z, e1, e2, _, _, rfl, rfl, q⟩))
theorem t_call {k : Bool} {f : Nat} {es : List Ex} (h : RQ (evE C (.call k f es) ρ μ) fun x μ => ∃ s b, view x μ = some s ∧ truT s = some b ∧ QB b μ) : RQ (evT C (.call k f es) ρ μ) QB := t_e (by rw [evT] <;> simp) h
theorem t_idx {a i : Ex} (h : RQ (evE C (.idx a i) ρ μ) fun x μ => ∃ s b, view x μ = some s ∧ truT s = some b ∧ QB b μ) : RQ (evT C (.idx a i) ρ μ) QB := t_e (by rw [evT] <;> simp) h
theorem t_att {al : List (Nat × Nat)} {a : Ex} (h : RQ (evE C (.att al a) ρ μ) fun x μ => ∃ s b, view x μ = some s ∧ truT s = some b ∧ QB b μ) : RQ (evT C (.att al a) ρ μ) QB := t_e (by rw [evT] <;> simp) h
theorem t_blt {k : Bool} {f : Bf} {es : List Ex} (h : RQ (evE C (.blt k f es) ρ μ) fun x μ => ∃ s b, view x μ = some s ∧ truT s = some b ∧ QB b μ) : RQ (evT C (.blt k f es) ρ μ) QB := t_e (by rw [evT] <;> simp) h
theorem t_chn {o p : Cop} {a b c : Ex} (h : RQ (evE C (.chn o p a b c) ρ μ) fun x μ => ∃ s b, view x μ = some s ∧ truT s = some b ∧ QB b μ) : RQ (evT C (.chn o p a b c) ρ μ) QB := t_e (by rw [evT] <;> simp) h
theorem ta_nil (h : QB true μ) : RQ (tsAnd C [] ρ μ) QB := by rw [tsAnd]; exact h
theorem ta_cons {e : Ex} {es : List Ex} (h : RQ (evT C e ρ μ) fun b μ => (b = true → RQ (tsAnd C es ρ μ) QB) ∧ (b = false → QB false μ)) : RQ (tsAnd C (e :: es) ρ μ) QB := by
  rw [tsAnd]
  refine RQ.bind (RQ.mono h fun b μ q => ?_)
  cases b with
  | true => exact q.1 rfl
  | false => exact q.2 rfl
theorem to_nil (h : QB false μ) : RQ (tsOr C [] ρ μ) QB := by rw [tsOr]; exact h
theorem to_cons {e : Ex} {es : List Ex} (h : RQ (evT C e ρ μ) fun b μ => (b = false → RQ (tsOr C es ρ μ) QB) ∧ (b = true → QB true μ)) : RQ (tsOr C (e :: es) ρ μ) QB := by
  rw [tsOr]
  refine RQ.bind (RQ.mono h fun b μ q => ?_)
  cases b with
  | true => exact q.2 rfl
  | false => exact q.1 rfl
/-! what is walked -/
theorem i_seq {e : Ex} (h : RQ (evE C e ρ μ) fun x μ => RQ (toT x μ) fun s μ => ∃ xs, seqT s = some xs ∧ QT xs μ) : RQ (evI C (.seq e) ρ μ) QT := by
  rw [evI]
  exact RQ.bind (RQ.mono h fun x μ q => RQ.bind (RQ.mono q fun s μ ⟨xs, e, q⟩ => ofO_s e q))
theorem i_rng1 {e : Ex} (h : RQ (evE C e ρ μ) fun x μ => ∃ j, x = .t (.int j) ∧ (-(2 ^ 62) ≤ j ∧ j < 2 ^ 62) ∧ QT (rangeT 0 j.toNat) μ) : RQ (evI C (.rng1 e) ρ μ) QT := by
  rw [evI]
  refine RQ.bind (RQ.mono h fun x μ ⟨j, e, q1, q2⟩ => ?_)
  subst e
  show RQ (if _ then _ else _) QT
  rw [if_pos q1]; exact q2
theorem i_enum {e : Ex} (h : RQ (evE C e ρ μ) fun x μ => RQ (toT x μ) fun s μ => ∃ xs, seqT s = some xs ∧ QT (enumT 0 xs) μ) : RQ (evI C (.enum e) ρ μ) QT := by
  rw [evI]
  refine RQ.bind (RQ.mono h fun x μ q => RQ.bind (RQ.mono q fun s μ ⟨xs, e, q⟩ => RQ.bind ?_))
  rw [e]; exact q
theorem i_zip {e f : Ex} (h : RQ (evE C e ρ μ) fun x μ => RQ (evE C f ρ μ) fun y μ => RQ (toT x μ) fun s μ => RQ (toT y μ) fun t μ => ∃ xs ys, s = .lst xs ∧ t = .lst ys ∧ QT (pairsT xs ys) μ) : RQ (evI C (.zip e f) ρ μ) QT := by
  rw [evI]
  refine RQ.bind (RQ.mono h fun x μ q => RQ.bind (RQ.mono q fun y μ q => RQ.bind (RQ.mono q fun s μ q => RQ.bind (RQ.mono q fun t μ ⟨xs, ys, e1, e2, q⟩ => ?_))))
  rw [e1, e2]
  exact q
theorem i_items {e : Ex} (h : RQ (evE C e ρ μ) fun x μ => RQ (toT x μ) fun s μ => ∃ ks vs, s = .dct ks vs ∧ QT (pairsT (ks.map keyT) vs) μ) : RQ (evI C (.items e) ρ μ) QT := by
  rw [evI]
  refine RQ.bind (RQ.mono h fun x μ q => RQ.bind (RQ.mono q fun s μ ⟨ks, vs, e1, q⟩ => ?_))
  subst e1
  exact q
/-! targets -/
theorem g_nm {i : Nat} {w : W} (hi : i < ρ.length) (h : QG (ρ.set i (some w)) μ) : RQ (asg C (.nm i) w ρ μ) QG := by
  rw [asg, if_pos hi]; exact h
theorem g_tp {ts : List Tg} {w : W} {xs : List T} (e : view w μ = some (.tup xs)) (hl : xs.length = ts.length) (h : RQ (asgs C ts (xs.map .t) ρ μ) QG) : RQ (asg C (.tp ts) w ρ μ) QG := by
  rw [asg, e]
  show RQ (if _ then _ else _) QG
  rw [if_pos hl]; exact h
theorem gs_nil (h : QG ρ μ) : RQ (asgs C [] [] ρ μ) QG := by rw [asgs]; exact h
theorem gs_cons {t : Tg} {ts : List Tg} {w : W} {ws : List W} (h : RQ (asg C t w ρ μ) fun ρ μ => RQ (asgs C ts ws ρ μ) QG) : RQ (asgs C (t :: ts) (w :: ws) ρ μ) QG := by
  rw [asgs]
  exact RQ.bind h
theorem gs_mnil (h : QG ρ μ) : RQ (asgs C [] (List.map W.t []) ρ μ) QG := by rw [List.map_nil, asgs]; exact h
theorem gs_mcons {t : Tg} {ts : List Tg} {w : T} {ws : List T} (h : RQ (asg C t (.t w) ρ μ) fun ρ μ => RQ (asgs C ts (List.map W.t ws) ρ μ) QG) : RQ (asgs C (t :: ts) (List.map W.t (w :: ws)) ρ μ) QG := by
  rw [List.map_cons, asgs]
  exact RQ.bind h
theorem g_sb {a i : Ex} {w : W} (h : RQ (evE C a ρ μ) fun x μ => RQ (evE C i ρ μ) fun y μ => ∃ t, view y μ = some t ∧ RQ (toT w μ) fun v μ => RQ (setItemC x t v μ) fun _ μ => QG ρ μ) : RQ (asg C (.sb a i) w ρ μ) QG := by
  rw [asg]
  refine RQ.bind (RQ.mono h fun x μ q => RQ.bind (RQ.mono q fun y μ ⟨t, e, q⟩ => ?_))
  rw [e]
  exact RQ.bind (RQ.mono q fun v μ q => RQ.bind q)
theorem setC_s {n : Nat} {c c' : Cell} {QU : Unit → Sto → Prop} (e : μ[n]? = some ⟨c', false, false⟩) (h : QU () (μ.set n ⟨c, false, false⟩)) : RQ (setC n c μ) QU := by
  unfold setC
  rw [e]; exact h
theorem si_lst {n : Nat} {xs : List T} {k : Int} {j : Nat} {v : T} {QU : Unit → Sto → Prop} (e : μ[n]? = some ⟨.lst xs, false, false⟩) (hj : ixN xs.length k = some j) (h : QU () (μ.set n ⟨.lst (xs.set j v), false, false⟩)) : RQ (setItemC (.loc n) (.int k) v μ) QU := by
  have hc : cellOf (.loc n) μ = some (n, .lst xs) := by
    show (match μ[n]? with | some e => some (n, e.c) | none => none) = _
    rw [e]
  unfold setItemC
  rw [hc]
  show RQ (match ixN xs.length k with | some j => _ | none => _) QU
  rw [hj]
  exact setC_s e h
theorem si_dct {n : Nat} {ks : List DK} {vs : List T} {i v : T} {k : DK} {QU : Unit → Sto → Prop} (e : μ[n]? = some ⟨.dct ks vs, false, false⟩) (hk : keyOf i = some k) (hl : ks.length < sizeLine) (h : QU () (μ.set n ⟨.dct (dput ks vs k v).1 (dput ks vs k v).2, false, false⟩)) : RQ (setItemC (.loc n) i v μ) QU := by
  have hc : cellOf (.loc n) μ = some (n, .dct ks vs) := by
    show (match μ[n]? with | some e => some (n, e.c) | none => none) = _
    rw [e]
  unfold setItemC
  rw [hc]
  show RQ (match keyOf i with | some k => _ | none => _) QU
  rw [hk]
  show RQ (if _ then _ else _) QU
  rw [if_pos hl]
  exact setC_s e h
/-! statements -/
theorem ss_n (h : K.nx ρ μ) : OQ (evSs C [] ρ μ) K := by rw [evSs]; exact h
theorem ss_c {s : Sm} {ss : List Sm} (h : OQ (evS C s ρ μ) { K with nx := fun ρ μ => OQ (evSs C ss ρ μ) K }) : OQ (evSs C (s :: ss) ρ μ) K := by
  rw [evSs]; exact OQ.seq h
theorem s_asg {tg : Tg} {e : Ex} (h : RQ (evE C e ρ μ) fun w μ => RQ (asg C tg w ρ μ) K.nx) : OQ (evS C (.asg tg e) ρ μ) K := by
  rw [evS]
  exact OQ.out (RQ.mono h fun w μ q => OQ.out q)
theorem s_par {tgs : List Tg} {es : List Ex} (h : RQ (evL C es ρ μ) fun ws μ => RQ (asgs C tgs ws ρ μ) K.nx) : OQ (evS C (.par tgs es) ρ μ) K := by
  rw [evS]
  exact OQ.out (RQ.mono h fun w μ q => OQ.out q)
theorem s_atr {al : List (Nat × Nat)} {a e : Ex} (h : RQ (evE C e ρ μ) fun w μ => RQ (evE C a ρ μ) fun x μ => RQ (toT w μ) fun v μ => ∃ n c xs p, cellOf x μ = some (n, .obj c xs) ∧ al.lookup c = some p ∧
    ((p < xs.length ∧ RQ (setC n (.obj c (xs.set p v)) μ) fun _ μ => K.nx ρ μ) ∨ (p = xs.length ∧ RQ (setC n (.obj c (xs ++ [v])) μ) fun _ μ => K.nx ρ μ))) : OQ (evS C (.atr al a e) ρ μ) K := by
  rw [evS]
  refine OQ.out (RQ.mono h fun w μ q => OQ.out (RQ.mono q fun x μ q => OQ.out (RQ.mono q fun v μ ⟨n, c, xs, p, e1, e2, q⟩ => ?_)))
  rw [e1]
  show OQ (match al.lookup c with | some p => _ | none => _) K
  rw [e2]
  show OQ (if _ then _ else _) K
  rcases q with ⟨q1, q2⟩ | ⟨q1, q2⟩
  · rw [if_pos q1]; exact OQ.out q2
  · rw [if_neg (by omega), if_pos q1]; exact OQ.out q2
theorem s_app {a e : Ex} (h : RQ (evE C a ρ μ) fun x μ => isLstC x μ = true ∧ RQ (evE C e ρ μ) fun w μ => RQ (toT w μ) fun v μ => ∃ n xs, cellOf x μ = some (n, .lst xs) ∧ xs.length < sizeLine ∧ RQ (setC n (.lst (xs ++ [v])) μ) fun _ μ => K.nx ρ μ) : OQ (evS C (.app a e) ρ μ) K := by
  rw [evS]
  refine OQ.out (RQ.mono h fun x μ ⟨q0, q⟩ => ?_)
  rw [if_pos q0]
  refine OQ.out (RQ.mono q fun w μ q => OQ.out (RQ.mono q fun v μ ⟨n, xs, e1, q1, q2⟩ => ?_))
  rw [e1]
  show OQ (if _ then _ else _) K
  rw [if_pos q1]; exact OQ.out q2
theorem s_ex {e : Ex} (h : RQ (evE C e ρ μ) fun _ μ => K.nx ρ μ) : OQ (evS C (.ex e) ρ μ) K := by
  rw [evS]; exact OQ.out h
theorem s_ret {e : Ex} (h : RQ (evE C e ρ μ) fun w μ => K.rt w μ) : OQ (evS C (.ret e) ρ μ) K := by
  rw [evS]; exact OQ.out h
theorem s_ret0 (h : K.rt (.t .non) μ) : OQ (evS C .ret0 ρ μ) K := by rw [evS]; exact h
theorem s_ife {c : Ex} {a b : List Sm} (h : RQ (evT C c ρ μ) fun z μ => (z = true → OQ (evSs C a ρ μ) K) ∧ (z = false → OQ (evSs C b ρ μ) K)) : OQ (evS C (.ife c a b) ρ μ) K := by
  rw [evS]
  refine OQ.out (RQ.mono h fun z μ q => ?_)
  cases z with
  | true => exact q.1 rfl
  | false => exact q.2 rfl
theorem s_brk (h : K.bk ρ μ) : OQ (evS C .brk ρ μ) K := by rw [evS]; exact h
theorem s_cnt (h : K.ct ρ μ) : OQ (evS C .cnt ρ μ) K := by rw [evS]; exact h
theorem s_pas (h : K.nx ρ μ) : OQ (evS C .pas ρ μ) K := by rw [evS]; exact h
theorem s_for {dr : List Nat} {it : It} {tg : Tg} {b : List Sm} (h : RQ (evI C it ρ μ) fun xs μ => OQ (forL (fun x ρ μ => (asg C tg (.t x) ρ μ).out fun ρ μ => evSs C b ρ μ) dr xs ρ μ) K) : OQ (evS C (.for_ dr it tg b) ρ μ) K := by
  rw [evS]; exact OQ.out h
theorem s_forg {dr : List Nat} {f : Nat} {es : List Ex} {tg : Tg} {b : List Sm} (h : RQ (evL C es ρ μ) fun ws μ => RQ (toTs ws μ) fun ts μ => ∃ ys, C.gen f ts = some ys ∧ OQ (forL (fun x ρ μ => (asg C tg (.t x) ρ μ).out fun ρ μ => evSs C b ρ μ) dr ys ρ μ) K) : OQ (evS C (.forg dr f es tg b) ρ μ) K := by
  rw [evS]
  refine OQ.out (RQ.mono h fun ws μ q => OQ.out (RQ.mono q fun ts μ ⟨ys, e, q⟩ => ?_))
  rw [e]; exact q
theorem s_whl {dr : List Nat} {c : Ex} {b : List Sm} (h : OQ (whlL (evT C c) (evSs C b) dr C.fuel ρ μ) K) : OQ (evS C (.whl dr c b) ρ μ) K := by
  rw [evS]; exact h
/-- a for, by a word of the items left -/
theorem forL_inv {body : T → Env → Sto → O} {dr : List Nat} (P : List T → Env → Sto → Prop) : ∀ {xs : List T} {ρ : Env} {μ : Sto}, P xs ρ μ →
    (∀ x r ρ μ, P (x :: r) ρ μ → OQ (body x ρ μ) { nx := fun ρ μ => P r (unset ρ dr) μ, ct := fun ρ μ => P r (unset ρ dr) μ, bk := fun ρ μ => K.nx (unset ρ dr) μ, rt := K.rt }) → (∀ ρ μ, P [] ρ μ → K.nx ρ μ) → OQ (forL body dr xs ρ μ) K
  | [], ρ, μ, h0, _, he => he ρ μ h0
  | x :: xs, ρ, μ, h0, hs, he => by
    have h := hs x xs ρ μ h0
    show OQ (match body x ρ μ with
      | .nx ρ μ => forL body dr xs (unset ρ dr) μ
      | .ct ρ μ => forL body dr xs (unset ρ dr) μ
      | .bk ρ μ => .nx (unset ρ dr) μ
      | o => o) K
    cases q : body x ρ μ with
    | nx ρ' μ' => rw [q] at h; exact forL_inv P h hs he
    | ct ρ' μ' => rw [q] at h; exact forL_inv P h hs he
    | bk ρ' μ' => rw [q] at h; exact h
    | rt w μ' => rw [q] at h; exact h
    | ex _ _ => rw [q] at h; exact h
    | bad => rw [q] at h; exact h
/-- a while, by a measure -/
theorem whlL_inv {test : Env → Sto → R Bool} {body : Env → Sto → O} {dr : List Nat} (P : Nat → Env → Sto → Prop) : ∀ {n m : Nat} {ρ : Env} {μ : Sto}, m < n → P m ρ μ →
    (∀ m ρ μ, P m ρ μ → RQ (test ρ μ) fun b μ => (b = false → K.nx ρ μ) ∧ (b = true → OQ (body ρ μ) { nx := fun ρ μ => ∃ m', m' < m ∧ P m' (unset ρ dr) μ, ct := fun ρ μ => ∃ m', m' < m ∧ P m' (unset ρ dr) μ, bk := fun ρ μ => K.nx (unset ρ dr) μ, rt := K.rt })) → OQ (whlL test body dr n ρ μ) K
  | 0, m, _, _, h, _, _ => absurd h (Nat.not_lt_zero _)
  | n + 1, m, ρ, μ, hm, h0, hs => by
    have h := hs m ρ μ h0
    show OQ ((test ρ μ).out fun b μ => match b with
      | false => .nx ρ μ
      | true => match body ρ μ with
        | .nx ρ μ => whlL test body dr n (unset ρ dr) μ
        | .ct ρ μ => whlL test body dr n (unset ρ dr) μ
        | .bk ρ μ => .nx (unset ρ dr) μ
        | o => o) K
    refine OQ.out (RQ.mono h fun b μ ⟨h1, h2⟩ => ?_)
    cases b with
    | false => exact h1 rfl
    | true =>
      have h := h2 rfl
      show OQ (match body ρ μ with
        | .nx ρ μ => whlL test body dr n (unset ρ dr) μ
        | .ct ρ μ => whlL test body dr n (unset ρ dr) μ
        | .bk ρ μ => .nx (unset ρ dr) μ
        | o => o) K
      cases q : body ρ μ with
      | nx ρ' μ' => rw [q] at h; obtain ⟨m', h3, h4⟩ := h; exact whlL_inv P (by omega) h4 hs
      | ct ρ' μ' => rw [q] at h; obtain ⟨m', h3, h4⟩ := h; exact whlL_inv P (by omega) h4 hs
      | bk ρ' μ' => rw [q] at h; exact h
      | rt w μ' => rw [q] at h; exact h
      | ex _ _ => rw [q] at h; exact h
      | bad => rw [q] at h; exact h
/-! comprehensions -/
theorem gath_inv {body : T → Sto → R (Option T)} (P : List T → List T → Sto → Prop) : ∀ {xs : List T} {acc : List T} {μ : Sto} {QT : List T → Sto → Prop}, P xs acc μ →
    (∀ x r acc μ, P (x :: r) acc μ → RQ (body x μ) fun o μ => P r (acc ++ o.toList) μ) → (∀ acc' μ, P [] acc' μ → ∀ vs, acc' = acc ++ vs → QT vs μ) → RQ (gath body xs μ) QT
  | [], acc, μ, QT, h0, _, he => he acc μ h0 [] (by simp)
  | x :: xs, acc, μ, QT, h0, hs, he => by
    unfold gath
    refine RQ.bind (RQ.mono (hs x xs acc μ h0) fun o μ h => RQ.bind ?_)
    cases o with
    | none => exact gath_inv P (acc := acc ++ (none : Option T).toList) (QT := QT) h hs fun acc' μ h' vs e => he acc' μ h' vs (by rw [e]; simp)
    | some v => exact gath_inv P (acc := acc ++ (some v).toList) (QT := fun vs μ => QT (v :: vs) μ) h hs fun acc' μ h' vs e => he acc' μ h' _ (by rw [e]; simp)
theorem gath_nil {body : T → Sto → R (Option T)} {QT : List T → Sto → Prop} (h : QT [] μ) : RQ (gath body [] μ) QT := h
theorem gath_cons {body : T → Sto → R (Option T)} {x : T} {xs : List T} {QT : List T → Sto → Prop} (h : RQ (body x μ) fun o μ => RQ (gath body xs μ) fun vs μ => QT (o.toList ++ vs) μ) : RQ (gath body (x :: xs) μ) QT := by
  unfold gath
  refine RQ.bind (RQ.mono h fun o μ q => RQ.bind (RQ.mono q fun vs μ q => ?_))
  cases o <;> exact q
theorem cbody_s {dr : List Nat} {FG : W → Env → Sto → R Env} {FT : Env → Sto → R Bool} {FE : Env → Sto → R T} {x : T} {QO : Option T → Sto → Prop} (h : RQ (FG (.t x) (unset ρ dr) μ) fun ρ' μ => RQ (FT ρ' μ) fun b μ => (b = true → RQ (FE ρ' μ) fun v μ => QO (some v) μ) ∧ (b = false → QO none μ)) : RQ (cbody dr FG FT FE ρ x μ) QO := by
  unfold cbody
  refine RQ.bind (RQ.mono h fun ρ' μ q => RQ.bind (RQ.mono q fun b μ q => ?_))
  cases b with
  | true => exact RQ.bind (q.1 rfl)
  | false => exact q.2 rfl
theorem frE_s {F : Env → Sto → R W} {QV : T → Sto → Prop} (h : RQ (F ρ μ) fun w μ => RQ (toT w μ) QV) : RQ (frE F ρ μ) QV := by
  unfold frE; exact RQ.bind h
theorem frP_s {F G : Env → Sto → R W} {QV : T → Sto → Prop} (h : RQ (F ρ μ) fun w μ => RQ (toT w μ) fun s μ => RQ (G ρ μ) fun w μ => RQ (toT w μ) fun t μ => QV (.tup [s, t]) μ) : RQ (frP F G ρ μ) QV := by
  unfold frP
  exact RQ.bind (RQ.mono h fun w μ q => RQ.bind (RQ.mono q fun s μ q => RQ.bind (RQ.mono q fun w μ q => RQ.bind q)))
/-- a comprehension without a test that leaves the cells as they are -/
theorem gath_map {body : T → Sto → R (Option T)} {f : T → T} {xs : List T} {QT : List T → Sto → Prop} (h : ∀ x ∈ xs, body x μ = .ok (some (f x)) μ) (q : QT (xs.map f) μ) : RQ (gath body xs μ) QT := by
  induction xs generalizing QT with
  | nil => exact q
  | cons x xs ih =>
    unfold gath
    refine RQ.bind ?_
    rw [h x List.mem_cons_self]
    refine RQ.bind (ih (fun y hy => h y (List.mem_cons_of_mem _ hy)) q)
theorem gath2_inv {body : T → Sto → R (List T)} (P : List T → List T → Sto → Prop) : ∀ {xs : List T} {acc : List T} {μ : Sto} {QT : List T → Sto → Prop}, P xs acc μ →
    (∀ x r acc μ, P (x :: r) acc μ → RQ (body x μ) fun us μ => P r (acc ++ us) μ) → (∀ acc' μ, P [] acc' μ → ∀ vs, acc' = acc ++ vs → QT vs μ) → RQ (gath2 body xs μ) QT
  | [], acc, μ, QT, h0, _, he => he acc μ h0 [] (by simp)
  | x :: xs, acc, μ, QT, h0, hs, he => by
    unfold gath2
    refine RQ.bind (RQ.mono (hs x xs acc μ h0) fun us μ h => RQ.bind ?_)
    refine gath2_inv P (acc := acc ++ us) (QT := fun vs μ => QT (us ++ vs) μ) h hs fun acc' μ h' vs e => ?_
    exact he acc' μ h' _ (by rw [e, List.append_assoc])
theorem obody_s {vs vs1 : List Nat} {FG FG1 : W → Env → Sto → R Env} {FI1 : Env → Sto → R (List T)} {FT : Env → Sto → R Bool} {FE : Env → Sto → R T} {x : T} {QT : List T → Sto → Prop} (h : RQ (FG (.t x) (unset ρ vs) μ) fun ρ1 μ => RQ (FI1 ρ1 μ) fun ys μ => RQ (gath (cbody vs1 FG1 FT FE ρ1) ys μ) QT) : RQ (obody vs vs1 FG FG1 FI1 FT FE ρ x μ) QT := by
  unfold obody
  exact RQ.bind (RQ.mono h fun ρ1 μ q => RQ.bind q)
theorem KD_s {k : Bool} {dn ps : List T} {ks : List DK} {vs : List T} (e : putAll (dn ++ ps) [] [] = some (ks, vs)) (hl : (dn ++ ps).length ≤ sizeLine) (h : RQ (fin k (.c (.dct ks vs)) μ) Q) : RQ (KD k dn ps μ) Q := by
  unfold KD
  rw [e]
  show RQ (if _ then _ else _) Q
  rw [if_pos hl]; exact h
end
/-! ### calls -/
theorem handB_t {k : Nat} {v : T} {μ : Sto} : handB k (.t v) μ = .ok (.t v) (outsOf k μ) := rfl
/-- what a def's call gives, by its body -/
theorem runD_s {C : Ctx} {d : FD} {as : List Ar} {P : Ar → List (Cell × Bool) → Prop} (hl : as.length = d.np) (h : OQ (evSs C d.body ((entry 0 as).1 ++ List.replicate (d.nl - d.np) none) (entry 0 as).2)
    { nx := fun _ μ => P (.t .non) (outsOf (entry 0 as).2.length μ), rt := fun w μ => ∃ r outs, handB (entry 0 as).2.length w μ = .ok r outs ∧ P r outs }) : ∃ r outs, runD C d as = .ok r outs ∧ P r outs := by
  unfold runD
  rw [if_pos hl]
  show ∃ r outs, (match evSs C d.body ((entry 0 as).1 ++ List.replicate (d.nl - d.np) none) (entry 0 as).2 with
    | .nx _ μ => CR.ok (.t .non) (outsOf (entry 0 as).2.length μ)
    | .rt w μ => handB (entry 0 as).2.length w μ
    | .ex e μ => .exc e (outsOf (entry 0 as).2.length μ)
    | _ => .bad) = .ok r outs ∧ P r outs
  cases q : evSs C d.body ((entry 0 as).1 ++ List.replicate (d.nl - d.np) none) (entry 0 as).2 with
  | nx ρ μ => rw [q] at h; exact ⟨_, _, rfl, h⟩
  | rt w μ => rw [q] at h; exact h
  | bk _ _ => rw [q] at h; exact h.elim
  | ct _ _ => rw [q] at h; exact h.elim
  | ex _ _ => rw [q] at h; exact h.elim
  | bad => rw [q] at h; exact h.elim
/-- .. with a known result -/
theorem runD_eq {C : Ctx} {d : FD} {as : List Ar} {r : Ar} {outs : List (Cell × Bool)} (hl : as.length = d.np) (h : OQ (evSs C d.body ((entry 0 as).1 ++ List.replicate (d.nl - d.np) none) (entry 0 as).2)
    { nx := fun _ μ => r = .t .non ∧ outs = outsOf (entry 0 as).2.length μ, rt := fun w μ => handB (entry 0 as).2.length w μ = .ok r outs }) : runD C d as = .ok r outs := by
  obtain ⟨r', outs', e, h1, h2⟩ := runD_s (P := fun r' outs' => r' = r ∧ outs' = outs) hl (OQ.mono h (fun ρ μ q => ⟨q.1.symm, q.2.symm⟩) (fun w μ q => ⟨r, outs, q, rfl, rfl⟩) (fun _ _ q => q) fun _ _ q => q)
  rw [e, h1, h2]
end Sy.Wp
end

section
set_option Elab.async false
set_option linter.all false
set_option maxRecDepth 100000
/-! SyWq: the evaluator's leaves. -/
namespace Sy.Wp
open PySem L2
theorem op2_add_i {i j : Int} : op2 .add (.int i) (.int j) = some (.t (.int (i + j))) := rfl
theorem op2_sub_i {i j : Int} : op2 .sub (.int i) (.int j) = some (.t (.int (i - j))) := rfl
theorem op2_mul_i {i j : Int} (h : MulOkI i j) : op2 .mul (.int i) (.int j) = some (.t (.int (i * j))) := if_pos h
theorem op2_div_i {i j : Int} (h : DivOk i j) : op2 .fdiv (.int i) (.int j) = some (.t (.int (i.fdiv j))) := if_pos h
theorem op2_mod_i {i j : Int} (h : j ≠ 0) : op2 .mod (.int i) (.int j) = some (.t (.int (i.fmod j))) := if_pos h
theorem op2_pow_i {i j : Int} (h : CPow i j) : op2 .pow (.int i) (.int j) = some (.t (.int (i ^ j.toNat))) := if_pos h
theorem op2_add_s {x y : Str} (h : x.length + y.length ≤ sizeLine) : op2 .add (.str x) (.str y) = some (.t (.str (x ++ y))) := if_pos h
theorem op2_add_l {x y : List T} (h : x.length + y.length ≤ sizeLine) : op2 .add (.lst x) (.lst y) = some (.c (.lst (x ++ y))) := if_pos h
theorem op2_mul_s {x : Str} {k : Int} (h : RepOk x.length k) : op2 .mul (.str x) (.int k) = some (.t (.str (Txt.mul x k))) := if_pos h
theorem op2_mul_l {x : List T} {k : Int} (h : RepOk x.length k) : op2 .mul (.lst x) (.int k) = some (.c (.lst (List.replicate k.toNat x).flatten)) := if_pos h
theorem cmp_eq_i {i j : Int} : cmpT .eq (.int i) (.int j) = some (decide (i = j)) := by
  show some (decide (V.int i = V.int j)) = _
  rw [dec_int]; rfl
theorem cmp_ne_i {i j : Int} : cmpT .ne (.int i) (.int j) = some (!decide (i = j)) := by
  show (some (decide (V.int i = V.int j))).map not = _
  rw [dec_int]; rfl
theorem cmp_lt_i {i j : Int} : cmpT .lt (.int i) (.int j) = some (decide (i < j)) := rfl
theorem cmp_le_i {i j : Int} : cmpT .le (.int i) (.int j) = some (decide (i ≤ j)) := rfl
theorem cmp_gt_i {i j : Int} : cmpT .gt (.int i) (.int j) = some (decide (j < i)) := rfl
theorem cmp_ge_i {i j : Int} : cmpT .ge (.int i) (.int j) = some (decide (j ≤ i)) := rfl
theorem cmp_eq_s {x y : Str} : cmpT .eq (.str x) (.str y) = some (decide (x = y)) := by
  show some (decide (V.str x = V.str y)) = _
  simp
theorem cmp_ne_s {x y : Str} : cmpT .ne (.str x) (.str y) = some (!decide (x = y)) := by
  show (some (decide (V.str x = V.str y))).map not = _
  simp
theorem cmp_eq_b {x y : Bool} : cmpT .eq (.bl x) (.bl y) = some (decide (x = y)) := by
  show some (decide (V.bl x = V.bl y)) = _
  simp
theorem cmp_ne_b {x y : Bool} : cmpT .ne (.bl x) (.bl y) = some (!decide (x = y)) := by
  show (some (decide (V.bl x = V.bl y))).map not = _
  simp
theorem mod_rng {i j : Int} (h : 0 < j) : 0 ≤ i.fmod j ∧ i.fmod j < j := ⟨Int.fmod_nonneg_of_pos _ h, Int.fmod_lt_of_pos _ h⟩
theorem atI_nn {α : Type} {xs : List α} {i : Int} (h0 : 0 ≤ i) : atI xs i = xs[i.toNat]? := by
  unfold atI ixN
  rw [if_pos h0]
  by_cases h : i < xs.length
  · rw [if_pos h]; rfl
  · rw [if_neg h, List.getElem?_eq_none (by omega)]; rfl
theorem idx_l {xs : List T} {i : Int} {v : T} (h : atI xs i = some v) : idxT (.lst xs) (.int i) = some v := h
theorem idx_ints {ns : List Int} {i : Int} (h0 : 0 ≤ i) (h1 : i < ns.length) : ∃ z, idxT (.lst (ns.map .int)) (.int i) = some (.int z) := by
  have hl : i.toNat < ns.length := by omega
  refine ⟨ns[i.toNat], idx_l ?_⟩
  rw [atI_nn h0, List.getElem?_map, List.getElem?_eq_getElem hl]; rfl
end Sy.Wp
end

section
set_option Elab.async false
set_option linter.all false
set_option maxRecDepth 100000
/-! K89S: texts. -/
namespace Sy.K89
open PySem L2 Sy.Wp PyProof.Rows
theorem str_ext {x y : Str} (h : x.cps.toList = y.cps.toList) : x = y := by
  obtain ⟨a⟩ := x; obtain ⟨b⟩ := y
  have : a = b := Array.ext' h
  rw [this]
theorem str_len (x : Str) : x.length = x.cps.toList.length := by simp [Str.length]
theorem app_toList (a b : Str) : (a ++ b).cps.toList = a.cps.toList ++ b.cps.toList := cps_toList_append a b
theorem app_len (a b : Str) : (a ++ b).length = a.length + b.length := by rw [str_len, app_toList, List.length_append, ← str_len, ← str_len]
theorem takeWhile_eq_self {α : Type} {p : α → Bool} : ∀ {l : List α}, (∀ x ∈ l, p x = true) → l.takeWhile p = l
  | [], _ => rfl
  | x :: l, h => by
    rw [List.takeWhile_cons, h x List.mem_cons_self, if_pos rfl, takeWhile_eq_self fun y hy => h y (List.mem_cons_of_mem _ hy)]
theorem strip_empty {x y : Str} (h : ∀ c ∈ x.cps.toList, y.cps.contains c = true) : Txt.stripChars x y = Str.empty := by
  have h1 : stripLo y.cps.contains true x = x.length := by
    show (x.cps.toList.takeWhile _).length = _
    rw [takeWhile_eq_self h, str_len]
  unfold Txt.stripChars
  rw [stripBy_eq, h1]
  have h2 : stripHi y.cps.contains true x x.length = x.length := by
    show x.length - ((x.cps.toList.drop x.length).reverse.takeWhile _).length = _
    rw [str_len, List.drop_length]; rfl
  rw [h2]
  apply str_ext
  show (x.cps.extract x.length x.length).toList = []
  simp
theorem sp_eq : (" " : Str) = ⟨#[32]⟩ := by decide +kernel
theorem fold_rep (n : Nat) : ∀ a : Array Nat, ((List.replicate n (#[32] : Array Nat)).foldl (· ++ ·) a).toList = a.toList ++ List.replicate n 32 := by
  induction n with
  | zero => intro a; simp
  | succ n ih =>
    intro a
    rw [List.replicate_succ, List.foldl_cons, ih, List.replicate_succ]
    simp
theorem mul_space (k : Int) : Txt.mul (" " : Str) k = spc k.toNat := by
  rw [sp_eq]
  unfold Txt.mul
  by_cases h1 : k < 1
  · rw [if_pos h1]
    have : k.toNat = 0 := by omega
    rw [this]; rfl
  · rw [if_neg h1]
    by_cases h2 : k = 1
    · subst h2; rfl
    · rw [if_neg (by simp [h2, Str.length])]
      apply str_ext
      show ((List.replicate k.toNat (#[32] : Array Nat)).foldl (· ++ ·) #[]).toList = _
      rw [fold_rep]
      simp [spc]
theorem spc_len (n : Nat) : (spc n).length = n := by simp [spc, Str.length]
theorem join_toList : ∀ ys : List Str, (Txt.join (("" : Str)) ys).cps.toList = ys.flatMap (·.cps.toList) := by
  intro ys
  have he : ("" : Str) = Str.empty := by decide +kernel
  unfold Txt.join
  rw [he, StrLaws.glued_eq_join]
  induction ys with
  | nil => rfl
  | cons x r ih =>
    cases r with
    | nil => simp [Str.join]
    | cons y r =>
      rw [join_cons_cons, app_toList, app_toList, ih]
      simp [Str.empty]
/-- a text of small letters -/
def Let (x : Str) : Prop := ∀ c ∈ x.cps.toList, 97 ≤ c ∧ c ≤ 122
def Nm (x : Str) : Prop := 1 ≤ x.length ∧ x.length ≤ 6 ∧ Let x
def abc : Str := "abcdefghijklmnopqrstuvwxyz"
theorem abc_list : abc.cps.toList = List.range' 97 26 := by decide +kernel
theorem abc_len : abc.length = 26 := by decide +kernel
theorem abc_mem {c : Nat} : c ∈ abc.cps.toList ↔ 97 ≤ c ∧ c ≤ 122 := by
  rw [abc_list, List.mem_range'_1]; omega
theorem abc_at {m : Int} (h0 : 0 ≤ m) (h1 : m < 26) : idxT (.str abc) (.int m) = some (.str ⟨#[97 + m.toNat]⟩) := by
  show (if abc.length ≤ sizeLine then (atI abc.cps.toList m).map fun c => T.str ⟨#[c]⟩ else none) = _
  rw [if_pos (by rw [abc_len]; unfold sizeLine; omega), atI_nn h0, abc_list]
  have : m.toNat < 26 := by omega
  rw [List.getElem?_eq_getElem (by simpa using this)]
  simp
theorem let_strip {x : Str} (h : Let x) : Txt.stripChars x abc = Str.empty := strip_empty fun c hc => by
  have : c ∈ abc.cps.toList := abc_mem.mpr (h c hc)
  simpa using this
end Sy.K89
end

section
set_option Elab.async false
set_option linter.all false
set_option maxRecDepth 100000
set_option maxHeartbeats 0
/-! K89P1: the draws. -/
open Sy Sy.Wp
local macro_rules | `(tactic| walk_at "leaf") => `(tactic| first
  | exact op2_add_i | exact op2_sub_i
  | exact op2_mul_i (by first | exact .inl (.inr ⟨by decide, by decide⟩) | exact .inl (.inl ⟨by decide, by decide⟩) | exact .inl (.inr ⟨by omega, by omega⟩) | exact .inl (.inl ⟨by omega, by omega⟩))
  | exact op2_mod_i (by first | decide | omega)
  | exact op2_div_i (by first | exact ⟨by decide, by decide⟩ | assumption)
  | exact op2_pow_i (by first | exact ⟨by decide, by decide, by decide⟩ | assumption)
  | exact cmp_eq_i | exact cmp_lt_i | exact cmp_le_i | exact cmp_gt_i | exact cmp_ge_i | exact cmp_ne_i | exact cmp_eq_s | exact cmp_ne_s | exact cmp_eq_b | exact cmp_ne_b
  | assumption
  | exact op2_add_s (by assumption)
  | exact op2_add_l (by assumption)
  | exact rfl)
local macro_rules | `(tactic| walk_at "e") => `(tactic| first
  | (with_reducible first
    | refine e_cst ?_ | refine e_op2 ?_ | refine e_cmp ?_ | refine e_idx ?_ | refine e_blt ?_ | refine e_bmt ?_ | refine e_call ?_ | refine e_att ?_ | refine e_isi ?_ | refine e_tup ?_ | refine e_lst ?_ | refine e_slc ?_ | refine e_mth ?_ | refine e_nt ?_ | refine e_neg ?_ | refine e_dct ?_ | refine e_ife ?_ | refine e_and ?_ | refine e_or ?_ | refine e_chn ?_ | refine e_new ?_ | refine e_fm ?_ | refine e_fst ?_ | refine e_comp ?_ | refine e_dcomp2 ?_ | refine e_lstg ?_ | refine e_newV0 ?_ | refine e_newV1 ?_ | refine e_lenO ?_ | refine s_forg ?_
    | refine l_nil ?_ | refine l_cons ?_ | refine f_nil ?_ | refine f_cons ?_ | refine p_non ?_
    | refine t_cmp ?_ | refine t_nt ?_ | refine t_and ?_ | refine t_or ?_ | refine t_isi ?_ | refine t_call ?_ | refine t_idx ?_ | refine t_att ?_ | refine t_blt ?_ | refine t_chn ?_ | refine t_cst ?_
    | refine a_one ?_ | refine a_two ?_ | refine o_one ?_ | refine o_two ?_ | refine ta_nil ?_ | refine ta_cons ?_ | refine to_nil ?_ | refine to_cons ?_
    | refine i_seq ?_ | refine i_rng1 ?_ | refine i_enum ?_ | refine i_zip ?_ | refine i_items ?_
    | refine gs_nil ?_ | refine gs_cons ?_ | refine g_sb ?_
    | refine fin_t ?_ | refine fin_f ?_ | refine fin_c ?_ | refine finA_t ?_ | refine finA_c ?_ | refine toT_t ?_ | refine toTs_n ?_ | refine toTs_c ?_
    | refine ss_n ?_ | refine ss_c ?_ | refine s_asg ?_ | refine s_par ?_ | refine s_atr ?_ | refine s_app ?_ | refine s_ex ?_ | refine s_ret ?_ | refine s_ret0 ?_ | refine s_ife ?_ | refine s_for ?_ | refine s_whl ?_ | refine s_pas ?_ | refine s_brk ?_ | refine s_cnt ?_)
  | ((with_reducible apply e_var); exact rfl) | ((with_reducible apply t_var); exact rfl) | ((with_reducible apply e_glb); exact rfl)
  | ((with_reducible apply g_nm); exact Nat.le_of_ble_eq_true rfl) | ((with_reducible apply g_tp); exact rfl; exact rfl)
  | ((with_reducible apply toT_l); exact rfl) | ((with_reducible apply si_lst); exact rfl; exact rfl)
  | ((with_reducible apply p_ex); (rw [evP] <;> simp))
  | ((with_reducible apply ex3); exact rfl; exact rfl; walk_at "leaf")
  | ((with_reducible apply ex4); exact rfl; exact rfl; exact rfl)
  | ((with_reducible apply ex2); exact rfl; walk_at "leaf")
  | ((with_reducible apply exA); exact rfl; exact rfl; exact rfl)
  | ((with_reducible apply ex1); exact rfl)
  | ((with_reducible apply setC_s); exact rfl)
  | ((with_reducible refine And.intro ?_ ?_); first | exact Nat.le_of_ble_eq_true rfl | (show isLstC _ _ = true; exact rfl) | assumption)
  | refine ss_c ?_)
namespace Sy.K89
open PySem L2 Sy.Wp _root_.K89
abbrev FU : Nat := 1099511627776
abbrev GG : List T := tab.glb.map (·.2)
abbrev L (n : Nat) : Sy.Ctx := tab.lv FU GG n
theorem cl {n j : Nat} {d : FnT} (h : tab.fns[j]? = some d) : (L (n + 1)).call j = runD (L n) d.fd := tab.lv_call FU GG n j h
/-- a bag of draws -/
def Bag (c : Cell) : Prop := ∃ (ns : List Int) (i r m k : Int), c = .lst [.lst (ns.map .int), .int i, .int r, .int m, .int k] ∧ 0 ≤ i ∧ 0 ≤ r ∧ 0 ≤ m ∧ m < 2147483587
theorem fdiv_rng {i j : Int} (h1 : 0 ≤ i) (h2 : 0 < j) : 0 ≤ i.fdiv j := Int.fdiv_nonneg h1 (Int.le_of_lt h2)
theorem log_lt {m : Int} (h1 : 0 < m) (h2 : m < 2 ^ 40) : m ≠ 0 ∧ m.natAbs.log2 < 9000 := by
  refine ⟨by omega, ?_⟩
  have h : m.natAbs < 2 ^ 40 := by omega
  have : m.natAbs.log2 < 40 := (Nat.log2_lt (by omega)).mpr h
  omega
theorem pull_s (C : Ctx) {b : Cell} (hb : Bag b) {m : Int} (hm : 0 < m) (hm2 : m < 2 ^ 40) : ∃ r outs, runD C f__law_pull.fd [.c b, .t (.int m)] = .ok r outs ∧ ∃ x b', r = .t (.int x) ∧ outs = [(b', false)] ∧ 0 ≤ x ∧ x < m ∧ Bag b' := by
  obtain ⟨ns, i, r, mx, k, rfl, h1, h2, h3, h4⟩ := hb
  have hd : DivOk r m := log_lt hm hm2
  refine runD_s rfl ?_
  show OQ (evSs C b__law_pull [some (.loc 0), some (.t (.int m)), none, none, none] [⟨.lst [.lst (ns.map .int), .int i, .int r, .int mx, .int k], false, false⟩]) _
  refine ss_c ?_
  refine OQ.cut (fun ρ μ => ρ = [some (.loc 0), some (.t (.int m)), none, none, none] ∧ μ = [⟨.lst [.lst (ns.map .int), .int i, .int r, .int mx, .int (k + 1)], false, false⟩]) ?_ ?_
  · repeat walk_at "e"
    exact ⟨rfl, rfl⟩
  rintro _ _ ⟨rfl, rfl⟩
  refine ss_c ?_
  refine OQ.cut (fun ρ μ => ∃ i' r' m' o, 0 ≤ i' ∧ 0 ≤ r' ∧ 0 ≤ m' ∧ m' < 2147483587 ∧ ρ = [some (.loc 0), some (.t (.int m)), none, o, none] ∧ μ = [⟨.lst [.lst (ns.map .int), .int i', .int r', .int m', .int (k + 1)], false, false⟩]) ?_ ?_
  · repeat walk_at "e"
    refine ⟨fun _ => ?_, fun _ => ⟨fun z => (by cases z), fun _ => ?_⟩⟩
    · repeat walk_at "e"
      refine ⟨fun _ => ?_, fun _ => ⟨fun z => (by cases z), fun _ => ?_⟩⟩
      · have hlt : i < ns.length := by
          have : decide (i < ((ns.map T.int).length : Int)) = true := by assumption
          simpa using this
        obtain ⟨z, hz⟩ := idx_ints (ns := ns) h1 hlt
        repeat walk_at "e"
        refine ⟨fun _ => ?_, fun z => (by cases z)⟩
        repeat walk_at "e"
        refine ⟨fun hge => ?_, fun _ => ?_⟩
        · repeat walk_at "e"
          have hz2 : 10 ^ 18 ≤ z := by simpa using hge
          exact ⟨i + 1, z, mx, some (.t (.int z)), by omega, by omega, h3, h4, rfl, rfl⟩
        · repeat walk_at "e"
          have := mod_rng (i := mx * 39367 + z.fmod 2147483423 * 509 + 89) (j := 2147483587) (by decide)
          exact ⟨i + 1, r, _, some (.t (.int z)), by omega, h2, this.1, this.2, rfl, rfl⟩
      · repeat walk_at "e"
        exact ⟨i, r, mx, none, h1, h2, h3, h4, rfl, rfl⟩
    · repeat walk_at "e"
      exact ⟨i, r, mx, none, h1, h2, h3, h4, rfl, rfl⟩
  rintro _ _ ⟨i', r', m', o, g1, g2, g3, g4, rfl, rfl⟩
  have hd' : DivOk r' m := log_lt hm hm2
  have hm0 : m ≠ 0 := by omega
  refine ss_c ?_
  repeat walk_at "e"
  refine ⟨fun hgt => ?_, fun _ => ?_⟩
  · repeat walk_at "e"
    have := mod_rng (i := r') hm
    exact ⟨_, _, rfl, _, _, rfl, rfl, this.1, this.2, ns, i', r'.fdiv m, m', k + 1, rfl, g1, fdiv_rng g2 hm, g3, g4⟩
  · have hp : CPow m' 3 := ⟨by decide, by decide, by omega⟩
    repeat walk_at "e"
    have e1 := mod_rng (i := m' ^ 3 + m' * 30013 + (k + 1) * 1299841 + 70003) (j := 2147483587) (by decide)
    have e2 := mod_rng (i := ((m' ^ 3 + m' * 30013 + (k + 1) * 1299841 + 70003).fmod 2147483587).fdiv 71 + ((m' ^ 3 + m' * 30013 + (k + 1) * 1299841 + 70003).fmod 2147483587).fmod 8179 * 59) hm
    exact ⟨_, _, rfl, _, _, rfl, rfl, e2.1, e2.2, ns, i', r', _, k + 1, rfl, g1, g2, e1.1, e1.2⟩
theorem pull_c (n : Nat) {b : Cell} (hb : Bag b) {m : Int} (hm : 0 < m) (hm2 : m < 2 ^ 40) : ∃ x b', (L (n + 1)).call 19 [.c b, .t (.int m)] = .ok (.t (.int x)) [(b', false)] ∧ 0 ≤ x ∧ x < m ∧ Bag b' := by
  obtain ⟨r, outs, e, x, b', rfl, rfl, h1, h2, h3⟩ := pull_s (L n) hb hm hm2
  exact ⟨x, b', by rw [cl rfl]; exact e, h1, h2, h3⟩
end Sy.K89
end

section
set_option Elab.async false
set_option linter.all false
set_option maxRecDepth 100000
set_option maxHeartbeats 0
/-! K89P2: the draws: start, pick. -/
open Sy Sy.Wp
local macro_rules | `(tactic| walk_at "leaf") => `(tactic| first
  | exact op2_add_i | exact op2_sub_i
  | exact op2_mul_i (by first | exact .inl (.inr ⟨by decide, by decide⟩) | exact .inl (.inl ⟨by decide, by decide⟩) | exact .inl (.inr ⟨by omega, by omega⟩) | exact .inl (.inl ⟨by omega, by omega⟩))
  | exact op2_mod_i (by first | decide | omega)
  | exact op2_div_i (by first | exact ⟨by decide, by decide⟩ | assumption)
  | exact op2_pow_i (by first | exact ⟨by decide, by decide, by decide⟩ | assumption)
  | exact cmp_eq_i | exact cmp_lt_i | exact cmp_le_i | exact cmp_gt_i | exact cmp_ge_i | exact cmp_ne_i | exact cmp_eq_s | exact cmp_ne_s | exact cmp_eq_b | exact cmp_ne_b
  | assumption
  | exact op2_add_s (by assumption)
  | exact op2_add_l (by assumption)
  | exact rfl)
local macro_rules | `(tactic| walk_at "e") => `(tactic| first
  | (with_reducible first
    | refine e_cst ?_ | refine e_op2 ?_ | refine e_cmp ?_ | refine e_idx ?_ | refine e_blt ?_ | refine e_bmt ?_ | refine e_call ?_ | refine e_att ?_ | refine e_isi ?_ | refine e_tup ?_ | refine e_lst ?_ | refine e_slc ?_ | refine e_mth ?_ | refine e_nt ?_ | refine e_neg ?_ | refine e_dct ?_ | refine e_ife ?_ | refine e_and ?_ | refine e_or ?_ | refine e_chn ?_ | refine e_new ?_ | refine e_fm ?_ | refine e_fst ?_ | refine e_comp ?_ | refine e_dcomp2 ?_ | refine e_lstg ?_ | refine e_newV0 ?_ | refine e_newV1 ?_ | refine e_lenO ?_ | refine s_forg ?_
    | refine l_nil ?_ | refine l_cons ?_ | refine f_nil ?_ | refine f_cons ?_ | refine p_non ?_
    | refine t_cmp ?_ | refine t_nt ?_ | refine t_and ?_ | refine t_or ?_ | refine t_isi ?_ | refine t_call ?_ | refine t_idx ?_ | refine t_att ?_ | refine t_blt ?_ | refine t_chn ?_ | refine t_cst ?_
    | refine a_one ?_ | refine a_two ?_ | refine o_one ?_ | refine o_two ?_ | refine ta_nil ?_ | refine ta_cons ?_ | refine to_nil ?_ | refine to_cons ?_
    | refine i_seq ?_ | refine i_rng1 ?_ | refine i_enum ?_ | refine i_zip ?_ | refine i_items ?_
    | refine gs_nil ?_ | refine gs_cons ?_ | refine g_sb ?_
    | refine fin_t ?_ | refine fin_f ?_ | refine fin_c ?_ | refine finA_t ?_ | refine finA_c ?_ | refine toT_t ?_ | refine toTs_n ?_ | refine toTs_c ?_
    | refine ss_n ?_ | refine ss_c ?_ | refine s_asg ?_ | refine s_par ?_ | refine s_atr ?_ | refine s_app ?_ | refine s_ex ?_ | refine s_ret ?_ | refine s_ret0 ?_ | refine s_ife ?_ | refine s_for ?_ | refine s_whl ?_ | refine s_pas ?_ | refine s_brk ?_ | refine s_cnt ?_)
  | ((with_reducible apply e_var); exact rfl) | ((with_reducible apply t_var); exact rfl) | ((with_reducible apply e_glb); exact rfl)
  | ((with_reducible apply g_nm); exact Nat.le_of_ble_eq_true rfl) | ((with_reducible apply g_tp); exact rfl; exact rfl)
  | ((with_reducible apply toT_l); exact rfl) | ((with_reducible apply si_lst); exact rfl; exact rfl)
  | ((with_reducible apply p_ex); (rw [evP] <;> simp))
  | ((with_reducible apply ex3); exact rfl; exact rfl; walk_at "leaf")
  | ((with_reducible apply ex4); exact rfl; exact rfl; exact rfl)
  | ((with_reducible apply ex2); exact rfl; walk_at "leaf")
  | ((with_reducible apply exA); exact rfl; exact rfl; exact rfl)
  | ((with_reducible apply ex1); exact rfl)
  | ((with_reducible apply setC_s); exact rfl)
  | ((with_reducible refine And.intro ?_ ?_); first | exact Nat.le_of_ble_eq_true rfl | (show isLstC _ _ = true; exact rfl) | assumption)
  | refine ss_c ?_)
namespace Sy.K89
open PySem L2 Sy.Wp _root_.K89
/-! pick -/
theorem pick_c (n : Nat) {b : Cell} (hb : Bag b) {xs : List T} (h0 : 0 < xs.length) (h1 : xs.length < 2 ^ 30) : ∃ x b', (L (n + 2)).call 20 [.c b, .t (.lst xs)] = .ok (.t x) [(b', false)] ∧ x ∈ xs ∧ Bag b' := by
  obtain ⟨i, b', e, g1, g2, hb'⟩ := pull_c n hb (m := (xs.length : Nat)) (by omega) (by omega)
  have hi : i.toNat < xs.length := by omega
  have hidx : idxT (.lst xs) (.int i) = some xs[i.toNat] := idx_l (by rw [atI_nn g1]; exact List.getElem?_eq_getElem hi)
  refine ⟨xs[i.toNat], b', ?_, List.getElem_mem hi, hb'⟩
  rw [cl rfl]
  refine runD_eq rfl ?_
  show OQ (evSs (L (n + 1)) b__law_pick [some (.loc 0), some (.t (.lst xs))] [⟨b, false, false⟩]) _
  repeat walk_at "e"
  refine evC_2 [⟨b', false, false⟩] e rfl (by decide) rfl ?_
  repeat walk_at "e"
  rfl
theorem pickS_c (n : Nat) {b : Cell} (hb : Bag b) {z : Str} (h0 : 0 < z.length) (h1 : z.length < 2 ^ 20) : ∃ c b', (L (n + 2)).call 20 [.c b, .t (.str z)] = .ok (.t (.str ⟨#[c]⟩)) [(b', false)] ∧ c ∈ z.cps.toList ∧ Bag b' := by
  obtain ⟨i, b', e, g1, g2, hb'⟩ := pull_c n hb (m := (z.length : Nat)) (by omega) (by omega)
  have hz : z.length ≤ sizeLine := by unfold sizeLine; omega
  have hl : z.cps.toList.length = z.length := by simp [Str.length]
  have hi : i.toNat < z.cps.toList.length := by omega
  have hlen : bltT .len [.str z] = some (.t (.int (z.length : Nat))) := if_pos hz
  have hidx : idxT (.str z) (.int i) = some (.str ⟨#[z.cps.toList[i.toNat]]⟩) := by
    show (if z.length ≤ sizeLine then (atI z.cps.toList i).map fun c => T.str ⟨#[c]⟩ else none) = _
    rw [if_pos hz, atI_nn g1, List.getElem?_eq_getElem hi]; rfl
  refine ⟨z.cps.toList[i.toNat], b', ?_, List.getElem_mem hi, hb'⟩
  rw [cl rfl]
  refine runD_eq rfl ?_
  show OQ (evSs (L (n + 1)) b__law_pick [some (.loc 0), some (.t (.str z))] [⟨b, false, false⟩]) _
  repeat walk_at "e"
  refine evC_2 [⟨b', false, false⟩] e rfl (by decide) rfl ?_
  repeat walk_at "e"
  rfl
/-! the start -/
theorem cutL_map {α β : Type} (f : α → β) (xs : List α) (lo hi : Option Int) : cutL (xs.map f) lo hi = (cutL xs lo hi).map f := by
  unfold cutL
  rw [List.length_map, ← List.map_drop, ← List.map_take]
theorem start_c (n : Nat) (ns : List Int) : ∃ b, (L (n + 1)).call 18 [.t (.lst (ns.map .int))] = .ok (.c b) [] ∧ Bag b := by
  suffices h : ∃ r outs, (L (n + 1)).call 18 [.t (.lst (ns.map .int))] = .ok r outs ∧ ∃ b, r = .c b ∧ outs = [] ∧ Bag b by
    obtain ⟨r, outs, e, b, rfl, rfl, hb⟩ := h
    exact ⟨b, e, hb⟩
  rw [cl rfl]
  refine runD_s rfl ?_
  show OQ (evSs (L n) b__law_start [some (.t (.lst (ns.map .int))), none, none] []) _
  repeat walk_at "e"
  rw [cutL_map]
  refine forL_inv (fun r ρ μ => (∀ x ∈ r, ∃ z, x = T.int z) ∧ ∃ mx o, ρ = [some (.t (.lst (ns.map .int))), some (.t (.int mx)), o] ∧ μ = [] ∧ 0 ≤ mx ∧ mx < 2147483543) ⟨fun x hx => ?_, 12036, none, rfl, rfl, by decide, by decide⟩ (fun x r ρ μ h => ?_) fun ρ μ h => ?_
  · obtain ⟨z, _, rfl⟩ := List.mem_map.mp hx
    exact ⟨z, rfl⟩
  · obtain ⟨hx, mx, o, rfl, rfl, h1, h2⟩ := h
    obtain ⟨z, rfl⟩ := hx x List.mem_cons_self
    refine OQ.out ?_
    repeat walk_at "e"
    have := mod_rng (i := mx * 48809 + z.fmod 2147483399 + 61) (j := 2147483543) (by decide)
    exact ⟨fun y hy => hx y (List.mem_cons_of_mem _ hy), _, _, rfl, rfl, this.1, this.2⟩
  · obtain ⟨_, mx, o, rfl, rfl, h1, h2⟩ := h
    repeat walk_at "e"
    rw [cutL_map]
    exact ⟨_, _, rfl, _, rfl, rfl, cutL ns none (some 63), 0, 0, mx, 0, rfl, by decide, by decide, h1, by omega⟩
end Sy.K89
end

section
set_option Elab.async false
set_option linter.all false
set_option maxRecDepth 100000
set_option maxHeartbeats 0
/-! K89P3: the names. -/
open Sy Sy.Wp
local macro_rules | `(tactic| walk_at "leaf") => `(tactic| first
  | exact op2_add_i | exact op2_sub_i
  | exact op2_mul_i (by first | exact .inl (.inr ⟨by decide, by decide⟩) | exact .inl (.inl ⟨by decide, by decide⟩) | exact .inl (.inr ⟨by omega, by omega⟩) | exact .inl (.inl ⟨by omega, by omega⟩))
  | exact op2_mod_i (by first | decide | omega)
  | exact op2_div_i (by first | exact ⟨by decide, by decide⟩ | assumption)
  | exact op2_pow_i (by first | exact ⟨by decide, by decide, by decide⟩ | assumption)
  | exact cmp_eq_i | exact cmp_lt_i | exact cmp_le_i | exact cmp_gt_i | exact cmp_ge_i | exact cmp_ne_i | exact cmp_eq_s | exact cmp_ne_s | exact cmp_eq_b | exact cmp_ne_b
  | assumption
  | exact op2_add_s (by assumption)
  | exact op2_add_l (by assumption)
  | exact rfl)
local macro_rules | `(tactic| walk_at "e") => `(tactic| first
  | (with_reducible first
    | refine e_cst ?_ | refine e_op2 ?_ | refine e_cmp ?_ | refine e_idx ?_ | refine e_blt ?_ | refine e_bmt ?_ | refine e_call ?_ | refine e_att ?_ | refine e_isi ?_ | refine e_tup ?_ | refine e_lst ?_ | refine e_slc ?_ | refine e_mth ?_ | refine e_nt ?_ | refine e_neg ?_ | refine e_dct ?_ | refine e_ife ?_ | refine e_and ?_ | refine e_or ?_ | refine e_chn ?_ | refine e_new ?_ | refine e_fm ?_ | refine e_fst ?_ | refine e_comp ?_ | refine e_dcomp2 ?_ | refine e_lstg ?_ | refine e_newV0 ?_ | refine e_newV1 ?_ | refine e_lenO ?_ | refine s_forg ?_
    | refine l_nil ?_ | refine l_cons ?_ | refine f_nil ?_ | refine f_cons ?_ | refine p_non ?_
    | refine t_cmp ?_ | refine t_nt ?_ | refine t_and ?_ | refine t_or ?_ | refine t_isi ?_ | refine t_call ?_ | refine t_idx ?_ | refine t_att ?_ | refine t_blt ?_ | refine t_chn ?_ | refine t_cst ?_
    | refine a_one ?_ | refine a_two ?_ | refine o_one ?_ | refine o_two ?_ | refine ta_nil ?_ | refine ta_cons ?_ | refine to_nil ?_ | refine to_cons ?_
    | refine i_seq ?_ | refine i_rng1 ?_ | refine i_enum ?_ | refine i_zip ?_ | refine i_items ?_
    | refine gs_nil ?_ | refine gs_cons ?_ | refine g_sb ?_
    | refine fin_t ?_ | refine fin_f ?_ | refine fin_c ?_ | refine finA_t ?_ | refine finA_c ?_ | refine toT_t ?_ | refine toTs_n ?_ | refine toTs_c ?_
    | refine ss_n ?_ | refine ss_c ?_ | refine s_asg ?_ | refine s_par ?_ | refine s_atr ?_ | refine s_app ?_ | refine s_ex ?_ | refine s_ret ?_ | refine s_ret0 ?_ | refine s_ife ?_ | refine s_for ?_ | refine s_whl ?_ | refine s_pas ?_ | refine s_brk ?_ | refine s_cnt ?_)
  | ((with_reducible apply e_var); exact rfl) | ((with_reducible apply t_var); exact rfl) | ((with_reducible apply e_glb); exact rfl)
  | ((with_reducible apply g_nm); exact Nat.le_of_ble_eq_true rfl) | ((with_reducible apply g_tp); exact rfl; exact rfl)
  | ((with_reducible apply toT_l); exact rfl) | ((with_reducible apply si_lst); exact rfl; exact rfl)
  | ((with_reducible apply p_ex); (rw [evP] <;> simp))
  | ((with_reducible apply ex3); exact rfl; exact rfl; walk_at "leaf")
  | ((with_reducible apply ex4); exact rfl; exact rfl; exact rfl)
  | ((with_reducible apply ex2); exact rfl; walk_at "leaf")
  | ((with_reducible apply exA); exact rfl; exact rfl; exact rfl)
  | ((with_reducible apply ex1); exact rfl)
  | ((with_reducible apply setC_s); exact rfl)
  | ((with_reducible refine And.intro ?_ ?_); first | exact Nat.le_of_ble_eq_true rfl | (show isLstC _ _ = true; exact rfl) | assumption)
  | refine ss_c ?_)
namespace Sy.K89
open PySem L2 Sy.Wp _root_.K89
theorem range_cons {k m : Nat} {x : T} {r : List T} (h : x :: r = rangeT (k : Int) (m - k)) : k < m ∧ x = .int (k : Int) ∧ r = rangeT ((k + 1 : Nat) : Int) (m - (k + 1)) := by
  by_cases hk : k < m
  · obtain ⟨d, hd⟩ : ∃ d, m - k = d + 1 := ⟨m - k - 1, by omega⟩
    rw [hd] at h
    have h : x :: r = .int (k : Int) :: rangeT ((k : Int) + 1) d := h
    injection h with h1 h2
    refine ⟨hk, h1, ?_⟩
    rw [h2, show m - (k + 1) = d by omega]
    rfl
  · rw [show m - k = 0 by omega] at h
    cases h
/-- the letters of a stem are drawn -/
theorem stem_c (n : Nat) {b : Cell} {F : En} (hb : Bag b) {j : Nat} (hj : j ≤ 5) {ρ : Sy.Env} (h0 : ρ[0]? = some (some (.loc 0))) (h3 : ρ[3]? = some (some (.t (.str abc)))) (hl : ρ.length = 11) (Q : List T → Sto → Prop)
    (hQ : ∀ (ys : List Str) (b' : Cell), (∀ y ∈ ys, ∃ c, y = (⟨#[c]⟩ : Str) ∧ 97 ≤ c ∧ c ≤ 122) → ys.length = j → Bag b' → Q (ys.map .str) [⟨b', false, false⟩, F]) :
    RQ (gath (cbody [10] (asg (L (n + 2)) (.nm 10)) (tsAnd (L (n + 2)) []) (frE (evE (L (n + 2)) (.call false 20 [(.var 0), (.var 3)]))) ρ) (rangeT 0 j) [⟨b, false, false⟩, F]) Q := by
  refine gath_inv (fun r acc μ => ∃ (k : Nat) (ys : List Str) (b' : Cell), r = rangeT (k : Int) (j - k) ∧ k ≤ j ∧ acc = ys.map .str ∧ (∀ y ∈ ys, ∃ c, y = (⟨#[c]⟩ : Str) ∧ 97 ≤ c ∧ c ≤ 122) ∧ ys.length = k ∧ Bag b' ∧ μ = [⟨b', false, false⟩, F]) (acc := []) ⟨0, [], b, rfl, Nat.zero_le _, rfl, fun _ h => by simp at h, rfl, hb, rfl⟩ ?_ ?_
  · rintro x r acc μ ⟨k, ys, b1, e1, hk, rfl, hy, hl2, hb1, rfl⟩
    obtain ⟨hk2, rfl, rfl⟩ := range_cons e1
    obtain ⟨c, b2, e, hc, hb2⟩ := pickS_c n hb1 (z := abc) (by rw [abc_len]; decide) (by rw [abc_len]; decide)
    have hu : unset ρ [10] = ρ.set 10 none := rfl
    refine cbody_s ?_
    rw [hu]
    refine g_nm (by rw [List.length_set, hl]; decide) ?_
    have v0 : ((ρ.set 10 none).set 10 (some (W.t (.int (k : Int)))))[0]? = some (some (.loc 0)) := by
      rw [List.getElem?_set_ne (by decide), List.getElem?_set_ne (by decide)]; exact h0
    have v3 : ((ρ.set 10 none).set 10 (some (W.t (.int (k : Int)))))[3]? = some (some (.t (.str abc))) := by
      rw [List.getElem?_set_ne (by decide), List.getElem?_set_ne (by decide)]; exact h3
    refine ta_nil ⟨fun _ => ?_, fun z => by cases z⟩
    refine frE_s (e_call (l_cons (e_var v0 (l_cons (e_var v3 (l_nil ?_))))))
    refine evC_2 [⟨b2, false, false⟩, F] e rfl (by decide) rfl ?_
    refine finA_t (toT_t ?_)
    refine ⟨k + 1, ys ++ [⟨#[c]⟩], b2, rfl, by omega, by simp, fun y hy' => ?_, by simp [hl2], hb2, rfl⟩
    rcases List.mem_append.mp hy' with q | q
    · exact hy y q
    · exact ⟨c, by simpa using q, abc_mem.mp hc⟩
  · rintro acc' μ ⟨k, ys, b1, e1, hk, rfl, hy, hl2, hb1, rfl⟩ vs hvs
    have hvs : ys.map T.str = vs := by simpa using hvs
    have hkj : k = j := by
      rcases Nat.lt_or_ge k j with q | q
      · obtain ⟨d, hd⟩ : ∃ d, j - k = d + 1 := ⟨j - k - 1, by omega⟩
        rw [hd] at e1
        cases e1
      · omega
    subst hkj
    rw [← hvs]
    exact hQ ys b1 hy hl2 hb1
/-- a name by its letter and its stem -/
def nameOf (f : Int) (c : Nat) (stem : Str) : Str := if f = 0 then ⟨#[c]⟩ ++ stem else stem ++ ⟨#[c]⟩
theorem nameOf_inj {f : Int} {c c' : Nat} {s s' : Str} (h : nameOf f c s = nameOf f c' s') : c = c' := by
  have h2 := congrArg (fun x : Str => x.cps.toList) h
  unfold nameOf at h2
  by_cases q : f = 0
  · simp only [q, if_true, app_toList] at h2
    simpa using congrArg List.head? h2
  · simp only [q, if_false, app_toList] at h2
    simpa using congrArg List.getLast? h2
theorem nameOf_nm {f : Int} {c : Nat} {s : Str} (hc : 97 ≤ c ∧ c ≤ 122) (hs : Let s) (hl : s.length ≤ 5) : Nm (nameOf f c s) := by
  have h1 : (⟨#[c]⟩ : Str).length = 1 := rfl
  unfold nameOf
  by_cases q : f = 0
  · rw [if_pos q]
    refine ⟨by rw [app_len]; omega, by rw [app_len]; omega, fun d hd => ?_⟩
    rw [app_toList] at hd
    rcases List.mem_append.mp hd with z | z
    · have : d = c := by simpa using z
      rw [this]; exact hc
    · exact hs d z
  · rw [if_neg q]
    refine ⟨by rw [app_len]; omega, by rw [app_len]; omega, fun d hd => ?_⟩
    rw [app_toList] at hd
    rcases List.mem_append.mp hd with z | z
    · exact hs d z
    · have : d = c := by simpa using z
      rw [this]; exact hc
theorem strsOf_map : ∀ ys : List Str, strsOf (ys.map .str) = some ys
  | [] => rfl
  | y :: ys => by
    show (strsOf (ys.map T.str)).map (y :: ·) = _
    rw [strsOf_map ys]; rfl
theorem bm_join {a : Str} {ys : List Str} (h : (ys.map (·.length)).sum + ys.length * a.length ≤ 16777216) : bmT .join [.str a, .lst (ys.map .str)] = some (.t (.str (Txt.join a ys))) := by
  show (match strsOf (ys.map T.str) with | some ys => _ | none => _) = _
  rw [strsOf_map]
  exact if_pos h
theorem ones_sum : ∀ {ys : List Str}, (∀ y ∈ ys, ∃ c, y = (⟨#[c]⟩ : Str) ∧ 97 ≤ c ∧ c ≤ 122) → (ys.map (·.length)).sum = ys.length
  | [], _ => rfl
  | y :: ys, h => by
    obtain ⟨c, rfl, _⟩ := h y List.mem_cons_self
    rw [List.map_cons, List.sum_cons, ones_sum fun z hz => h z (List.mem_cons_of_mem _ hz)]
    show 1 + ys.length = ys.length + 1
    omega
theorem ones_let {ys : List Str} (h : ∀ y ∈ ys, ∃ c, y = (⟨#[c]⟩ : Str) ∧ 97 ≤ c ∧ c ≤ 122) : Let (Txt.join "" ys) ∧ (Txt.join "" ys).length = ys.length := by
  constructor
  · intro d hd
    rw [join_toList] at hd
    obtain ⟨y, hy, hd⟩ := List.mem_flatMap.mp hd
    obtain ⟨c, rfl, hc⟩ := h y hy
    have : d = c := by simpa using hd
    rw [this]; exact hc
  · rw [str_len, join_toList, List.length_flatMap]
    rw [← ones_sum h]
    congr 1
theorem fm26 (a : Int) : a.fmod 26 = a % 26 := Int.fmod_eq_emod_of_nonneg a (by decide)
theorem pace_inj {g q : Int} {i j : Nat} (hi : i < 26) (hj : j < 26) (hq : q = 1 ∨ q = 3 ∨ q = 5 ∨ q = 7 ∨ q = 9 ∨ q = 11 ∨ q = 15 ∨ q = 17 ∨ q = 19 ∨ q = 21 ∨ q = 23 ∨ q = 25) (h : (g + q * i) % 26 = (g + q * j) % 26) : i = j := by
  rcases hq with rfl | rfl | rfl | rfl | rfl | rfl | rfl | rfl | rfl | rfl | rfl | rfl <;> omega
theorem names_c (n : Nat) {b : Cell} (hb : Bag b) {m : Nat} (hm : m ≤ 26) : ∃ (xs : List Str) (b' : Cell), (L (n + 3)).call 21 [.c b, .t (.int m)] = .ok (.c (.lst (xs.map .str))) [(b', false)] ∧ xs.length = m ∧ (∀ x ∈ xs, Nm x) ∧ xs.Nodup ∧ Bag b' := by
  suffices h : ∃ r outs, (L (n + 3)).call 21 [.c b, .t (.int m)] = .ok r outs ∧ ∃ (xs : List Str) (b' : Cell), r = .c (.lst (xs.map .str)) ∧ outs = [(b', false)] ∧ xs.length = m ∧ (∀ x ∈ xs, Nm x) ∧ xs.Nodup ∧ Bag b' by
    obtain ⟨r, outs, e, xs, b', rfl, rfl, h⟩ := h
    exact ⟨xs, b', e, h⟩
  obtain ⟨f, b1, e1, f0, f1, hb1⟩ := pull_c (n + 1) hb (m := 2) (by decide) (by decide)
  obtain ⟨g, b2, e2, g0, g1, hb2⟩ := pull_c (n + 1) hb1 (m := 26) (by decide) (by decide)
  obtain ⟨p, b3, e3, hp, hb3⟩ := pick_c n hb2 (xs := [.int 1, .int 3, .int 5, .int 7, .int 9, .int 11, .int 15, .int 17, .int 19, .int 21, .int 23, .int 25]) (by decide) (by decide)
  obtain ⟨q, rfl, hq⟩ : ∃ q : Int, p = .int q ∧ (q = 1 ∨ q = 3 ∨ q = 5 ∨ q = 7 ∨ q = 9 ∨ q = 11 ∨ q = 15 ∨ q = 17 ∨ q = 19 ∨ q = 21 ∨ q = 23 ∨ q = 25) := by
    simp only [List.mem_cons, List.not_mem_nil, or_false] at hp
    rcases hp with rfl | rfl | rfl | rfl | rfl | rfl | rfl | rfl | rfl | rfl | rfl | rfl <;> exact ⟨_, rfl, by decide⟩
  rw [cl rfl]
  refine runD_s rfl ?_
  show OQ (evSs (L (n + 2)) b__law_names [some (.loc 0), some (.t (.int m)), none, none, none, none, none, none, none, none, none] [⟨b, false, false⟩]) _
  refine ss_c ?_
  refine OQ.cut (fun ρ μ => ρ = [some (.loc 0), some (.t (.int m)), none, some (.t (.str abc)), some (.t (.int f)), some (.t (.int g)), none, none, none, none, none] ∧ μ = [⟨b2, false, false⟩]) ?_ ?_
  · repeat walk_at "e"
    refine evC_2 [⟨b1, false, false⟩] e1 rfl (by decide) rfl ?_
    repeat walk_at "e"
    refine evC_2 [⟨b2, false, false⟩] e2 rfl (by decide) rfl ?_
    repeat walk_at "e"
    exact ⟨rfl, rfl⟩
  rintro _ _ ⟨rfl, rfl⟩
  refine ss_c ?_
  refine OQ.cut (fun ρ μ => ρ = [some (.loc 0), some (.t (.int m)), none, some (.t (.str abc)), some (.t (.int f)), some (.t (.int g)), some (.t (.int q)), some (.loc 1), none, none, none] ∧ μ = [⟨b3, false, false⟩, ⟨.lst [], false, false⟩]) ?_ ?_
  · repeat walk_at "e"
    refine evC_2 [⟨b3, false, false⟩] e3 rfl (by decide) rfl ?_
    repeat walk_at "e"
    exact ⟨rfl, rfl⟩
  rintro _ _ ⟨rfl, rfl⟩
  refine ss_c ?_
  refine OQ.cut (fun ρ μ => ∃ (xs : List Str) (b' : Cell) (o2 o8 o9 : Option W), xs.length = m ∧ (∀ x ∈ xs, Nm x) ∧ xs.Nodup ∧ Bag b' ∧ ρ = [some (.loc 0), some (.t (.int m)), o2, some (.t (.str abc)), some (.t (.int f)), some (.t (.int g)), some (.t (.int q)), some (.loc 1), o8, o9, none] ∧ μ = [⟨b', false, false⟩, ⟨.lst (xs.map .str), false, false⟩]) ?_ ?_
  · repeat walk_at "e"
    refine ⟨⟨by omega, by omega⟩, ?_⟩
    refine forL_inv (fun r ρ μ => ∃ (k : Nat) (xs : List Str) (b' : Cell) (o2 o8 o9 : Option W), r = rangeT (k : Int) (m - k) ∧ k ≤ m ∧ xs.length = k ∧ (∀ (i : Nat) (x : Str), xs[i]? = some x → ∃ s, Let s ∧ s.length ≤ 5 ∧ x = nameOf f (97 + ((g + q * (i : Int)).fmod 26).toNat) s) ∧ Bag b' ∧ ρ = [some (.loc 0), some (.t (.int m)), o2, some (.t (.str abc)), some (.t (.int f)), some (.t (.int g)), some (.t (.int q)), some (.loc 1), o8, o9, none] ∧ μ = [⟨b', false, false⟩, ⟨.lst (xs.map .str), false, false⟩])
      ⟨0, [], b3, none, none, none, rfl, Nat.zero_le _, rfl, fun i x h => by simp at h, hb3, rfl, rfl⟩ (fun x r ρ μ h => ?_) fun ρ μ h => ?_
    · obtain ⟨k, xs, b4, o2, o8, o9, e4, hk, hl, hxs, hb4, rfl, rfl⟩ := h
      obtain ⟨hk2, rfl, rfl⟩ := range_cons e4
      refine OQ.out ?_
      obtain ⟨jt, b5, e5, hjt, hb5⟩ := pick_c n hb4 (xs := [.int 0, .int 1, .int 2, .int 5]) (by decide) (by decide)
      obtain ⟨j, rfl, hj0, hj5⟩ : ∃ j : Int, jt = .int j ∧ 0 ≤ j ∧ j ≤ 5 := by
        simp only [List.mem_cons, List.not_mem_nil, or_false] at hjt
        rcases hjt with rfl | rfl | rfl | rfl <;> exact ⟨_, rfl, by decide⟩
      repeat walk_at "e"
      refine evC_2 [⟨b5, false, false⟩, ⟨.lst (xs.map .str), false, false⟩] e5 rfl (by decide) rfl ?_
      repeat walk_at "e"
      refine ⟨⟨by omega, by omega⟩, ?_⟩
      refine stem_c n hb5 (j := j.toNat) (by omega) rfl rfl rfl _ fun ys b6 hy hyl hb6 => ?_
      obtain ⟨hlt, hll⟩ := ones_let hy
      have hjoin : bmT .join [.str "", .lst (ys.map .str)] = some (.t (.str (Txt.join "" ys))) := bm_join (by
        rw [ones_sum hy, show ("" : Str).length = 0 from rfl]; omega)
      have hr := mod_rng (i := g + q * (k : Int)) (j := 26) (by decide)
      have hidx := abc_at hr.1 hr.2
      have hc1 : 97 ≤ 97 + ((g + q * (k : Int)).fmod 26).toNat ∧ 97 + ((g + q * (k : Int)).fmod 26).toNat ≤ 122 := by omega
      have hs1 : (⟨#[97 + ((g + q * (k : Int)).fmod 26).toNat]⟩ : Str).length + (Txt.join "" ys).length ≤ sizeLine := by
        rw [hll, show (⟨#[97 + ((g + q * (k : Int)).fmod 26).toNat]⟩ : Str).length = 1 from rfl]; unfold sizeLine; omega
      have hs2 : (Txt.join "" ys).length + (⟨#[97 + ((g + q * (k : Int)).fmod 26).toNat]⟩ : Str).length ≤ sizeLine := by omega
      have hxl : (xs.map T.str).length < sizeLine := by rw [List.length_map]; unfold sizeLine; omega
      refine ⟨by rw [List.length_map]; unfold sizeLine; omega, ?_⟩
      have fin : ∀ z : Str, z = nameOf f (97 + ((g + q * (k : Int)).fmod 26).toNat) (Txt.join "" ys) → ∀ (i : Nat) (x : Str), (xs ++ [z])[i]? = some x → ∃ s, Let s ∧ s.length ≤ 5 ∧ x = nameOf f (97 + ((g + q * (i : Int)).fmod 26).toNat) s := fun z hz i x h => by
        by_cases hi : i < xs.length
        · rw [List.getElem?_append_left hi] at h
          exact hxs i x h
        · rw [List.getElem?_append_right (by omega)] at h
          have hi2 : i = k := by
            have := (List.getElem?_eq_some_iff.mp h).1
            simp at this; omega
          subst hi2
          rw [hl, Nat.sub_self] at h
          have : z = x := by simpa using h
          exact ⟨_, hlt, by omega, by rw [← this]; exact hz⟩
      repeat walk_at "e"
      refine ⟨fun hf => ?_, fun hf => ?_⟩
      · have hf : f = 0 := of_decide_eq_true hf
        repeat walk_at "e"
        exact ⟨k + 1, xs ++ [_], b6, _, _, _, rfl, by omega, by simp [hl], fin _ (by unfold nameOf; rw [if_pos hf]), hb6, rfl, by rw [List.map_append]; rfl⟩
      · have hf : ¬ f = 0 := of_decide_eq_false hf
        repeat walk_at "e"
        exact ⟨k + 1, xs ++ [_], b6, _, _, _, rfl, by omega, by simp [hl], fin _ (by unfold nameOf; rw [if_neg hf]), hb6, rfl, by rw [List.map_append]; rfl⟩
    · obtain ⟨k, xs, b4, o2, o8, o9, e4, hk, hl, hxs, hb4, rfl, rfl⟩ := h
      have hkm : k = m := by
        rcases Nat.lt_or_ge k m with z | z
        · obtain ⟨d, hd⟩ : ∃ d, m - k = d + 1 := ⟨m - k - 1, by omega⟩
          rw [hd] at e4; cases e4
        · omega
      subst hkm
      refine ⟨xs, b4, o2, o8, o9, hl, fun x hx => ?_, ?_, hb4, rfl, rfl⟩
      · obtain ⟨i, hi⟩ := List.getElem?_of_mem hx
        obtain ⟨s, h1, h2, rfl⟩ := hxs i x hi
        have hr := mod_rng (i := g + q * (i : Int)) (j := 26) (by decide)
        exact nameOf_nm (by omega) h1 h2
      · unfold List.Nodup
        rw [List.pairwise_iff_getElem]
        intro i j hi hj hij e
        obtain ⟨s, _, _, h1⟩ := hxs i xs[i] (List.getElem?_eq_getElem hi)
        obtain ⟨s', _, _, h2⟩ := hxs j xs[j] (List.getElem?_eq_getElem hj)
        rw [e] at h1
        have h3 := nameOf_inj (h1.symm.trans h2)
        have r1 := mod_rng (i := g + q * (i : Int)) (j := 26) (by decide)
        have r2 := mod_rng (i := g + q * (j : Int)) (j := 26) (by decide)
        have h4 : (g + q * (i : Int)).fmod 26 = (g + q * (j : Int)).fmod 26 := by omega
        rw [fm26, fm26] at h4
        have := pace_inj (by omega) (by omega) hq h4
        omega
  rintro _ _ ⟨xs, b4, o2, o8, o9, hl, hn, hd, hb4, rfl, rfl⟩
  repeat walk_at "e"
  exact ⟨_, _, rfl, xs, b4, rfl, rfl, hl, hn, hd, hb4⟩
end Sy.K89
end

section
set_option Elab.async false
set_option linter.all false
set_option maxRecDepth 100000
set_option maxHeartbeats 0
/-! K89P4: fractions, kinds. -/
open Sy Sy.Wp
local macro_rules | `(tactic| walk_at "leaf") => `(tactic| first
  | exact op2_add_i | exact op2_sub_i
  | exact op2_mul_i (by first | exact .inl (.inr ⟨by decide, by decide⟩) | exact .inl (.inl ⟨by decide, by decide⟩) | exact .inl (.inr ⟨by omega, by omega⟩) | exact .inl (.inl ⟨by omega, by omega⟩))
  | exact op2_mod_i (by first | decide | omega)
  | exact op2_div_i (by first | exact ⟨by decide, by decide⟩ | assumption)
  | exact op2_pow_i (by first | exact ⟨by decide, by decide, by decide⟩ | assumption)
  | exact cmp_eq_i | exact cmp_lt_i | exact cmp_le_i | exact cmp_gt_i | exact cmp_ge_i | exact cmp_ne_i | exact cmp_eq_s | exact cmp_ne_s | exact cmp_eq_b | exact cmp_ne_b
  | assumption
  | exact op2_add_s (by assumption)
  | exact op2_add_l (by assumption)
  | exact op2_mul_l ⟨by first | decide | omega, by first | decide | omega, Nat.le_of_ble_eq_true rfl⟩
  | exact rfl)
local macro_rules | `(tactic| walk_at "e") => `(tactic| first
  | (with_reducible first
    | refine e_cst ?_ | refine e_op2 ?_ | refine e_cmp ?_ | refine e_idx ?_ | refine e_blt ?_ | refine e_bmt ?_ | refine e_call ?_ | refine e_att ?_ | refine e_isi ?_ | refine e_tup ?_ | refine e_lst ?_ | refine e_slc ?_ | refine e_mth ?_ | refine e_nt ?_ | refine e_neg ?_ | refine e_dct ?_ | refine e_ife ?_ | refine e_and ?_ | refine e_or ?_ | refine e_chn ?_ | refine e_new ?_ | refine e_fm ?_ | refine e_fst ?_ | refine e_comp ?_ | refine e_dcomp2 ?_ | refine e_lstg ?_ | refine e_newV0 ?_ | refine e_newV1 ?_ | refine e_lenO ?_ | refine s_forg ?_
    | refine l_nil ?_ | refine l_cons ?_ | refine f_nil ?_ | refine f_cons ?_ | refine p_non ?_
    | refine t_cmp ?_ | refine t_nt ?_ | refine t_and ?_ | refine t_or ?_ | refine t_isi ?_ | refine t_call ?_ | refine t_idx ?_ | refine t_att ?_ | refine t_blt ?_ | refine t_chn ?_ | refine t_cst ?_
    | refine a_one ?_ | refine a_two ?_ | refine o_one ?_ | refine o_two ?_ | refine ta_nil ?_ | refine ta_cons ?_ | refine to_nil ?_ | refine to_cons ?_
    | refine i_seq ?_ | refine i_rng1 ?_ | refine i_enum ?_ | refine i_zip ?_ | refine i_items ?_ | refine cbody_s ?_ | refine frE_s ?_ | refine frP_s ?_ | refine obody_s ?_
    | refine gs_nil ?_ | refine gs_cons ?_ | refine g_sb ?_
    | refine fin_t ?_ | refine fin_f ?_ | refine fin_c ?_ | refine finA_t ?_ | refine finA_c ?_ | refine toT_t ?_ | refine toTs_n ?_ | refine toTs_c ?_
    | refine ss_n ?_ | refine ss_c ?_ | refine s_asg ?_ | refine s_par ?_ | refine s_atr ?_ | refine s_app ?_ | refine s_ex ?_ | refine s_ret ?_ | refine s_ret0 ?_ | refine s_ife ?_ | refine s_for ?_ | refine s_whl ?_ | refine s_pas ?_ | refine s_brk ?_ | refine s_cnt ?_)
  | ((with_reducible apply e_var); exact rfl) | ((with_reducible apply t_var); exact rfl) | ((with_reducible apply e_glb); exact rfl)
  | ((with_reducible apply g_nm); exact Nat.le_of_ble_eq_true rfl) | ((with_reducible apply g_tp); exact rfl; exact rfl)
  | ((with_reducible apply toT_l); exact rfl) | ((with_reducible apply si_lst); exact rfl; exact rfl)
  | ((with_reducible apply p_ex); (rw [evP] <;> simp))
  | ((with_reducible apply ex3); exact rfl; exact rfl; walk_at "leaf")
  | ((with_reducible apply ex4); exact rfl; exact rfl; exact rfl)
  | ((with_reducible apply ex2); exact rfl; walk_at "leaf")
  | ((with_reducible apply exA); exact rfl; exact rfl; exact rfl)
  | ((with_reducible apply ex1); exact rfl)
  | ((with_reducible apply setC_s); exact rfl)
  | ((with_reducible refine And.intro ?_ ?_); first | exact Nat.le_of_ble_eq_true rfl | (show isLstC _ _ = true; exact rfl) | assumption)
  | refine ss_c ?_)
namespace Sy.K89
open PySem L2 Sy.Wp _root_.K89
theorem absE (i : Int) : (if i < 0 then -i else i) = (i.natAbs : Int) := by split <;> omega
theorem fmodN (x m : Nat) : (x : Int).fmod (m : Int) = ((x % m : Nat) : Int) := by
  rw [Int.fmod_eq_emod_of_nonneg _ (Int.natCast_nonneg m)]; rfl
theorem fuelL (n : Nat) : (L n).fuel = FU := lv_fuel ..
theorem gcd_c (n : Nat) {a b : Int} (hb : b.natAbs < FU) : (L (n + 1)).call 22 [.t (.int a), .t (.int b)] = .ok (.t (.int (Nat.gcd a.natAbs b.natAbs : Nat))) [] := by
  rw [cl rfl]
  refine runD_eq rfl ?_
  show OQ (evSs (L n) b__law_gcd [some (.t (.int a)), some (.t (.int b)), none, none] []) _
  refine ss_c ?_
  refine OQ.cut (fun ρ μ => ρ = [some (.t (.int a)), some (.t (.int b)), some (.t (.int a.natAbs)), some (.t (.int b.natAbs))] ∧ μ = []) ?_ ?_
  · repeat walk_at "e"
    rw [absE a, absE b]
    exact ⟨rfl, rfl⟩
  rintro _ _ ⟨rfl, rfl⟩
  refine ss_c ?_
  refine OQ.cut (fun ρ μ => ∃ o, ρ = [some (.t (.int a)), some (.t (.int b)), some (.t (.int (Nat.gcd a.natAbs b.natAbs : Nat))), o] ∧ μ = []) ?_ ?_
  · refine s_whl ?_
    refine whlL_inv (fun m ρ μ => ∃ x : Nat, ρ = [some (.t (.int a)), some (.t (.int b)), some (.t (.int x)), some (.t (.int m))] ∧ μ = [] ∧ Nat.gcd x m = Nat.gcd a.natAbs b.natAbs) (m := b.natAbs) (by rw [fuelL]; exact hb) ⟨a.natAbs, rfl, rfl, rfl⟩ ?_
    rintro m _ _ ⟨x, rfl, rfl, hg⟩
    repeat walk_at "e"
    refine ⟨fun hz => ?_, fun hz => ?_⟩
    · have hz : ¬ (0 : Int) < m := of_decide_eq_false hz
      have hm : m = 0 := by omega
      subst hm
      rw [Nat.gcd_zero_right] at hg
      rw [← hg]
      exact ⟨_, rfl, rfl⟩
    · have hz : (0 : Int) < m := of_decide_eq_true hz
      have hm : 0 < m := by omega
      repeat walk_at "e"
      refine ⟨x % m, Nat.mod_lt _ hm, m, ?_, rfl, ?_⟩
      · rw [fmodN]; rfl
      · rw [← hg, Nat.gcd_comm x m, Nat.gcd_rec m x, Nat.gcd_comm]
  rintro _ _ ⟨o, rfl, rfl⟩
  repeat walk_at "e"
  rfl
def FracOk (a u : Int) : Prop := 1 ≤ u ∧ u ≤ 1000000 ∧ a.natAbs ≤ 1000000 ∧ Nat.gcd a.natAbs u.natAbs = 1
theorem frac_c (n : Nat) {o u : Int} (hu : 0 < u) (hu2 : u ≤ 1000000) (ho : o.natAbs ≤ 1000000) : ∃ a v, (L (n + 2)).call 23 [.t (.int o), .t (.int u)] = .ok (.t (.tup [.int a, .int v])) [] ∧ FracOk a v := by
  have e1 := gcd_c n (a := o) (b := u) (by show u.natAbs < 1099511627776; omega)
  obtain ⟨g, hg⟩ : ∃ g, g = Nat.gcd o.natAbs u.natAbs := ⟨_, rfl⟩
  rw [← hg] at e1
  have g0 : 0 < g := by rw [hg]; exact Nat.gcd_pos_of_pos_right _ (by omega)
  have gle : g ≤ u.natAbs := by rw [hg]; exact Nat.gcd_le_right _ (by omega)
  have hd1 : ∀ x : Int, DivOk x (g : Int) := fun x => log_lt (by omega) (by omega)
  have dv1 : (g : Int) ∣ o := Int.ofNat_dvd_left.mpr (by rw [hg]; exact Nat.gcd_dvd_left ..)
  have dv2 : (g : Int) ∣ u := Int.ofNat_dvd_left.mpr (by rw [hg]; exact Nat.gcd_dvd_right ..)
  obtain ⟨c, hc⟩ := dv1
  obtain ⟨d, hd⟩ := dv2
  have q1 : o.fdiv (g : Int) = c := by
    rw [Int.fdiv_eq_ediv_of_nonneg _ (by omega), hc, Int.mul_ediv_cancel_left _ (by omega)]
  have q2 : u.fdiv (g : Int) = d := by
    rw [Int.fdiv_eq_ediv_of_nonneg _ (by omega), hd, Int.mul_ediv_cancel_left _ (by omega)]
  have n1 : o.natAbs = g * c.natAbs := by rw [hc, Int.natAbs_mul]; rfl
  have n2 : u.natAbs = g * d.natAbs := by rw [hd, Int.natAbs_mul]; rfl
  have hcd : Nat.gcd c.natAbs d.natAbs = 1 := by
    rw [n1, n2, Nat.gcd_mul_left] at hg
    exact Nat.eq_of_mul_eq_mul_left g0 (by omega)
  have dpos : 0 < d := by
    rcases Int.lt_trichotomy 0 d with z | z | z
    · exact z
    · rw [← z] at hd; omega
    · have : (g : Int) * d < 0 := Int.mul_neg_of_pos_of_neg (by omega) z
      omega
  have dle : d.natAbs ≤ u.natAbs := by rw [n2]; exact Nat.le_mul_of_pos_left _ g0
  have cle : c.natAbs ≤ o.natAbs := by rw [n1]; exact Nat.le_mul_of_pos_left _ g0
  refine ⟨c, d, ?_, by omega, by omega, by omega, hcd⟩
  rw [cl rfl]
  refine runD_eq rfl ?_
  show OQ (evSs (L (n + 1)) b__law_frac [some (.t (.int o)), some (.t (.int u)), none] []) _
  have h1 := hd1 o
  have h2 := hd1 u
  repeat walk_at "e"
  refine ⟨fun _ => ?_, fun hz => absurd hu (of_decide_eq_false hz)⟩
  repeat walk_at "e"
  refine evC_2 [] e1 rfl (by decide) rfl ?_
  repeat walk_at "e"
  show CR.ok (.t (.tup [.int (o.fdiv g), .int (u.fdiv g)])) [] = _
  rw [q1, q2]
theorem somefrac_c (n : Nat) {b : Cell} (hb : Bag b) : ∃ a v b', (L (n + 3)).call 30 [.c b] = .ok (.t (.tup [.int a, .int v])) [(b', false)] ∧ FracOk a v ∧ Bag b' := by
  obtain ⟨p, b1, e1, hp, hb1⟩ := pick_c n hb (xs := [.int 1, .int 9, .int 99, .int 9999, .int 999999]) (by decide) (by decide)
  obtain ⟨q, rfl, hq1, hq2⟩ : ∃ q : Int, p = .int q ∧ 1 ≤ q ∧ q ≤ 999999 := by
    simp only [List.mem_cons, List.not_mem_nil, or_false] at hp
    rcases hp with rfl | rfl | rfl | rfl | rfl <;> exact ⟨_, rfl, by decide⟩
  obtain ⟨s, b2, e2, s0, s1, hb2⟩ := pull_c (n + 1) hb1 (m := 2) (by decide) (by decide)
  suffices h : ∃ r outs, (L (n + 3)).call 30 [.c b] = .ok r outs ∧ ∃ a v b', r = .t (.tup [.int a, .int v]) ∧ outs = [(b', false)] ∧ FracOk a v ∧ Bag b' by
    obtain ⟨r, outs, e, a, v, b', rfl, rfl, h⟩ := h
    exact ⟨a, v, b', e, h⟩
  rw [cl rfl]
  refine runD_s rfl ?_
  show OQ (evSs (L (n + 2)) b__law_some_fraction [some (.loc 0), none, none] [⟨b, false, false⟩]) _
  refine ss_c ?_
  refine OQ.cut (fun ρ μ => ρ = [some (.loc 0), some (.t (.int q)), some (.t (.int (1 - 2 * s)))] ∧ μ = [⟨b2, false, false⟩]) ?_ ?_
  · repeat walk_at "e"
    refine evC_2 [⟨b1, false, false⟩] e1 rfl (by decide) rfl ?_
    repeat walk_at "e"
    refine evC_2 [⟨b2, false, false⟩] e2 rfl (by decide) rfl ?_
    repeat walk_at "e"
    exact ⟨rfl, rfl⟩
  rintro _ _ ⟨rfl, rfl⟩
  repeat walk_at "e"
  refine ⟨fun hz => ?_, fun hz => ?_⟩
  · obtain ⟨t, b3, e3, t0, t1, hb3⟩ := pull_c (n + 1) hb2 (m := 5) (by decide) (by decide)
    repeat walk_at "e"
    refine evC_2 [⟨b3, false, false⟩] e3 rfl (by decide) rfl ?_
    repeat walk_at "e"
    exact ⟨_, _, rfl, t - 2, 1, b3, rfl, rfl, ⟨by decide, by decide, by omega, by simp⟩, hb3⟩
  · obtain ⟨t, b3, e3, t0, t1, hb3⟩ := pull_c (n + 1) hb2 (m := q + 1) (by omega) (by omega)
    obtain ⟨u, b4, e4, u0, u1, hb4⟩ := pull_c (n + 1) hb3 (m := q) (by omega) (by omega)
    have habs : ((1 - 2 * s) * t).natAbs ≤ 1000000 := by
      have hs : s = 0 ∨ s = 1 := by omega
      rcases hs with rfl | rfl <;> omega
    obtain ⟨a, v, e5, hf⟩ := frac_c n (o := (1 - 2 * s) * t) (u := 1 + u) (by omega) (by omega) habs
    repeat walk_at "e"
    refine evC_2 [⟨b3, false, false⟩] e3 rfl (by decide) rfl ?_
    repeat walk_at "e"
    refine evC_2 [⟨b4, false, false⟩] e4 rfl (by decide) rfl ?_
    repeat walk_at "e"
    refine evC_2 [⟨b4, false, false⟩] e5 rfl (by decide) rfl ?_
    repeat walk_at "e"
    exact ⟨_, _, rfl, a, v, b4, rfl, rfl, hf, hb4⟩
def kinds6 : List Str := ["slanted", "turned", "mirrored", "stretched", "sized", "even"]
theorem kinds_c (n : Nat) {b : Cell} (hb : Bag b) : ∃ k b', (L (n + 3)).call 25 [.c b, .t (.int 1)] = .ok (.t (.lst [.str k])) [(b', false)] ∧ k ∈ kinds6 ∧ Bag b' := by
  suffices h : ∃ r outs, (L (n + 3)).call 25 [.c b, .t (.int 1)] = .ok r outs ∧ ∃ k b', r = .t (.lst [.str k]) ∧ outs = [(b', false)] ∧ k ∈ kinds6 ∧ Bag b' by
    obtain ⟨r, outs, e, k, b', rfl, rfl, h⟩ := h
    exact ⟨k, b', e, h⟩
  obtain ⟨w, b1, e1, w0, w1, hb1⟩ := pull_c (n + 1) hb (m := 5) (by decide) (by decide)
  obtain ⟨p, b2, e2, hp, hb2⟩ := pick_c n hb1 (xs := [.str "slanted", .str "turned", .str "mirrored", .str "stretched", .str "sized", .str "even"]) (by decide) (by decide)
  have kin : ∀ p : T, p ∈ [T.str "slanted", .str "turned", .str "mirrored", .str "stretched", .str "sized", .str "even"] → ∃ k, p = .str k ∧ k ∈ kinds6 := fun p hp => by
    simp only [List.mem_cons, List.not_mem_nil, or_false] at hp
    rcases hp with rfl | rfl | rfl | rfl | rfl | rfl <;> exact ⟨_, rfl, by simp [kinds6]⟩
  obtain ⟨k, rfl, hk⟩ := kin p hp
  rw [cl rfl]
  refine runD_s rfl ?_
  show OQ (evSs (L (n + 2)) b__law_kinds [some (.loc 0), some (.t (.int 1)), none, none, none, none] [⟨b, false, false⟩]) _
  refine ss_c ?_
  repeat walk_at "e"
  refine evC_2 [⟨b1, false, false⟩] e1 rfl (by decide) rfl ?_
  repeat walk_at "e"
  refine evC_2 [⟨b2, false, false⟩] e2 rfl (by decide) rfl ?_
  repeat walk_at "e"
  refine ⟨fun hz => ?_, fun hz => ?_⟩
  · repeat walk_at "e"
    exact ⟨_, _, rfl, k, b2, rfl, rfl, hk, hb2⟩
  · repeat walk_at "e"
    refine ⟨⟨by decide, by decide⟩, ?_⟩
    refine gath_cons ?_
    repeat walk_at "e"
    refine ⟨fun _ => ?_, fun z => by cases z⟩
    repeat walk_at "e"
    refine ⟨fun hw => ?_, fun hw => ?_⟩
    · obtain ⟨p, b3, e3, hp, hb3⟩ := pick_c n hb2 (xs := [.str "slanted", .str "turned", .str "mirrored"]) (by decide) (by decide)
      obtain ⟨k2, rfl, hk2⟩ := kin p (by
        simp only [List.mem_cons, List.not_mem_nil, or_false] at hp ⊢
        rcases hp with q | q | q <;> simp [q])
      repeat walk_at "e"
      refine evC_2 [⟨b3, false, false⟩] e3 rfl (by decide) rfl ?_
      repeat walk_at "e"
      refine gath_nil ?_
      repeat walk_at "e"
      exact ⟨_, _, rfl, k2, b3, rfl, rfl, hk2, hb3⟩
    · obtain ⟨p, b3, e3, hp, hb3⟩ := pick_c n hb2 (xs := [.str "slanted", .str "turned", .str "mirrored", .str "stretched", .str "sized", .str "even"]) (by decide) (by decide)
      obtain ⟨k2, rfl, hk2⟩ := kin p hp
      repeat walk_at "e"
      refine evC_2 [⟨b3, false, false⟩] e3 rfl (by decide) rfl ?_
      repeat walk_at "e"
      refine gath_nil ?_
      repeat walk_at "e"
      exact ⟨_, _, rfl, k2, b3, rfl, rfl, hk2, hb3⟩
end Sy.K89
end

section
set_option Elab.async false
set_option linter.all false
set_option maxRecDepth 100000
set_option maxHeartbeats 0
/-! K89P5: numbers, spots, texts, columns. -/
open Sy Sy.Wp
local macro_rules | `(tactic| walk_at "leaf") => `(tactic| first
  | assumption
  | exact op2_add_i | exact op2_sub_i
  | exact op2_mul_i (by first | exact .inl (.inr ⟨by decide, by decide⟩) | exact .inl (.inl ⟨by decide, by decide⟩) | exact .inl (.inr ⟨by omega, by omega⟩) | exact .inl (.inl ⟨by omega, by omega⟩))
  | exact op2_mod_i (by first | decide | omega)
  | exact op2_div_i (by first | exact ⟨by decide, by decide⟩ | assumption)
  | exact op2_pow_i (by first | exact ⟨by decide, by decide, by decide⟩ | assumption)
  | exact cmp_eq_i | exact cmp_lt_i | exact cmp_le_i | exact cmp_gt_i | exact cmp_ge_i | exact cmp_ne_i | exact cmp_eq_s | exact cmp_ne_s | exact cmp_eq_b | exact cmp_ne_b
  | assumption
  | exact op2_add_s (by assumption)
  | exact op2_add_l (by assumption)
  | exact op2_mul_l ⟨by first | decide | omega, by first | decide | omega, Nat.le_of_ble_eq_true rfl⟩
  | exact rfl)
local macro_rules | `(tactic| walk_at "e") => `(tactic| first
  | (with_reducible first
    | refine e_cst ?_ | refine e_op2 ?_ | refine e_cmp ?_ | refine e_idx ?_ | refine e_blt ?_ | refine e_bmt ?_ | refine e_call ?_ | refine e_att ?_ | refine e_isi ?_ | refine e_tup ?_ | refine e_lst ?_ | refine e_slc ?_ | refine e_mth ?_ | refine e_nt ?_ | refine e_neg ?_ | refine e_dct ?_ | refine e_ife ?_ | refine e_and ?_ | refine e_or ?_ | refine e_chn ?_ | refine e_new ?_ | refine e_fm ?_ | refine e_fst ?_ | refine e_comp ?_ | refine e_dcomp2 ?_ | refine e_lstg ?_ | refine e_newV0 ?_ | refine e_newV1 ?_ | refine e_lenO ?_ | refine s_forg ?_ | refine s_forc ?_
    | refine l_nil ?_ | refine l_cons ?_ | refine f_nil ?_ | refine f_cons ?_ | refine p_non ?_
    | refine t_cmp ?_ | refine t_nt ?_ | refine t_and ?_ | refine t_or ?_ | refine t_isi ?_ | refine t_call ?_ | refine t_idx ?_ | refine t_att ?_ | refine t_blt ?_ | refine t_chn ?_ | refine t_cst ?_
    | refine a_one ?_ | refine a_two ?_ | refine o_one ?_ | refine o_two ?_ | refine ta_nil ?_ | refine ta_cons ?_ | refine to_nil ?_ | refine to_cons ?_
    | refine i_seq ?_ | refine i_rng1 ?_ | refine i_enum ?_ | refine i_zip ?_ | refine i_items ?_ | refine cbody_s ?_ | refine frE_s ?_ | refine frP_s ?_ | refine obody_s ?_
    | refine gs_nil ?_ | refine gs_cons ?_ | refine gs_mcons ?_ | refine gs_mnil ?_ | refine g_sb ?_
    | refine fin_t ?_ | refine fin_f ?_ | refine fin_c ?_ | refine finA_t ?_ | refine finA_c ?_ | refine toT_t ?_ | refine toTs_n ?_ | refine toTs_c ?_
    | refine ss_n ?_ | refine ss_c ?_ | refine s_asg ?_ | refine s_par ?_ | refine s_atr ?_ | refine s_app ?_ | refine s_ex ?_ | refine s_ret ?_ | refine s_ret0 ?_ | refine s_ife ?_ | refine s_for ?_ | refine s_whl ?_ | refine s_pas ?_ | refine s_brk ?_ | refine s_cnt ?_)
  | ((with_reducible apply e_var); exact rfl) | ((with_reducible apply t_var); exact rfl) | ((with_reducible apply e_glb); first | exact Sy.glb_at rfl | exact rfl)
  | ((with_reducible apply g_nm); exact Nat.le_of_ble_eq_true rfl) | ((with_reducible apply g_tp); exact rfl; exact rfl)
  | ((with_reducible apply toT_l); exact rfl) | ((with_reducible apply si_lst); exact rfl; exact rfl) | ((with_reducible apply si_dct); exact rfl; exact rfl; first | assumption | exact Nat.le_of_ble_eq_true rfl)
  | ((with_reducible apply p_ex); (rw [evP] <;> simp))
  | ((with_reducible apply ex3); exact rfl; exact rfl; walk_at "leaf")
  | ((with_reducible apply ex4); exact rfl; exact rfl; exact rfl)
  | ((with_reducible apply ex2); exact rfl; walk_at "leaf")
  | ((with_reducible apply exA); exact rfl; exact rfl; exact rfl)
  | ((with_reducible apply ex1); exact rfl)
  | ((with_reducible apply setC_s); exact rfl)
  | ((with_reducible refine And.intro ?_ ?_); first | exact Nat.le_of_ble_eq_true rfl | (show isLstC _ _ = true; exact rfl) | assumption)
  | ((with_reducible apply br_t); first | assumption | exact rfl)
  | ((with_reducible apply br_f); first | assumption | exact rfl)
  | ((with_reducible apply bf_t); first | assumption | exact rfl)
  | ((with_reducible apply bf_f); first | assumption | exact rfl)
  | refine ss_c ?_)
namespace Sy.K89
open PySem L2 Sy.Wp _root_.K89
abbrev Fr := Int × Int
def frT (f : Fr) : T := .tup [.int f.1, .int f.2]
def FrOk (f : Fr) : Prop := FracOk f.1 f.2
def spT (s : Fr × Fr) : T := .tup [frT s.1, frT s.2]
def SpOk (s : Fr × Fr) : Prop := FrOk s.1 ∧ FrOk s.2
theorem number_c (n : Nat) (i : Int) : (L (n + 1)).call 0 [.t (.int i)] = .ok (.t (.bl true)) [] := by
  rw [cl rfl]
  refine runD_eq rfl ?_
  show OQ (evSs (L n) b__is_number [some (.t (.int i))] []) _
  repeat walk_at "e"
  rfl
theorem fraction_c (n : Nat) {f : Fr} (hf : FrOk f) : (L (n + 2)).call 1 [.t (frT f)] = .ok (.t (.bl true)) [] := by
  obtain ⟨a, u⟩ := f
  obtain ⟨h1, h2, h3, h4⟩ := hf
  have h1 : 1 ≤ u := h1
  have h4 : Nat.gcd a.natAbs u.natAbs = 1 := h4
  have c1 : cmpT .ge (.int u) (.int 1) = some true := by
    show some (decide (1 ≤ u)) = _
    rw [decide_eq_true h1]
  have c2 : cmpT .eq (.int ((Nat.gcd a.natAbs u.natAbs : Nat) : Int)) (.int 1) = some true := by rw [h4]; rfl
  rw [cl rfl]
  refine runD_eq rfl ?_
  show OQ (evSs (L (n + 1)) b_is_fraction [some (.t (.tup [.int a, .int u])), none, none] []) _
  repeat walk_at "e"
  refine evC_2 [] (number_c n a) rfl (by decide) rfl ?_
  repeat walk_at "e"
  refine evC_2 [] (number_c n u) rfl (by decide) rfl ?_
  repeat walk_at "e"
  rfl
theorem spot_c (n : Nat) {s : Fr × Fr} (hs : SpOk s) : (L (n + 3)).call 2 [.t (spT s)] = .ok (.t (.bl true)) [] := by
  rw [cl rfl]
  refine runD_eq rfl ?_
  show OQ (evSs (L (n + 2)) b_is_spot [some (.t (.tup [frT s.1, frT s.2]))] []) _
  repeat walk_at "e"
  refine evC_2 [] (fraction_c n hs.1) rfl (by decide) rfl ?_
  repeat walk_at "e"
  refine evC_2 [] (fraction_c n hs.2) rfl (by decide) rfl ?_
  repeat walk_at "e"
  rfl
/-! texts -/
def its (i : Int) : Str := (toString i : String)
theorem its_len {i : Int} (h : i.natAbs ≤ 1000000) : (its i).length ≤ 1921 := by
  refine PyProof.Rows.int_text_len_1921 ?_
  by_cases h0 : i.natAbs = 0
  · rw [h0]; decide
  · have : i.natAbs.log2 < 20 := (Nat.log2_lt h0).mpr (by omega)
    omega
theorem log_its {i : Int} (h : i.natAbs ≤ 1000000) : i.natAbs.log2 < 1920 := by
  by_cases h0 : i.natAbs = 0
  · rw [h0]; decide
  · have : i.natAbs.log2 < 20 := (Nat.log2_lt h0).mpr (by omega)
    omega
def ftext (f : Fr) : Str := if f.2 = 1 then its f.1 else its f.1 ++ "/" ++ its f.2
theorem emp_app (x : Str) : Str.empty ++ x = x := str_ext (by rw [app_toList]; simp [Str.empty])
theorem slash_len : ("/" : Str).length = 1 := by decide +kernel
theorem ftext_len {f : Fr} (h : FrOk f) : (ftext f).length ≤ 3843 := by
  obtain ⟨h1, h2, h3, h4⟩ := h
  have a1 := its_len h3
  have a2 := its_len (i := f.2) (by omega)
  unfold ftext
  split
  · omega
  · rw [app_len, app_len, slash_len]; omega
theorem sL (n : Nat) (h : n ≤ 16777216) : n ≤ sizeLine := h
theorem fractext_c (n : Nat) {f : Fr} (hf : FrOk f) : (L (n + 1)).call 3 [.t (frT f)] = .ok (.t (.str (ftext f))) [] := by
  obtain ⟨a, u⟩ := f
  obtain ⟨h1, h2, h3, h4⟩ := hf
  have a1 := its_len (i := a) h3
  have a2 := its_len (i := u) (by have h1 : 1 ≤ u := h1; have h2 : u ≤ 1000000 := h2; omega)
  have s1 : bltT .str_ [.int a] = some (.t (.str (its a))) := if_pos (log_its h3)
  have f1 : fmT .no (.int a) = some (its a) := if_pos (log_its h3)
  have f2 : fmT .no (.int u) = some (its u) := if_pos (log_its (by have h1 : 1 ≤ u := h1; have h2 : u ≤ 1000000 := h2; omega))
  have l1 : (Str.empty ++ its a).length ≤ sizeLine := sL _ (by rw [emp_app]; omega)
  have l2 : (Str.empty ++ its a ++ ("/" : Str)).length ≤ sizeLine := sL _ (by rw [emp_app, app_len, slash_len]; omega)
  have l3 : (Str.empty ++ its a ++ ("/" : Str) ++ its u).length ≤ sizeLine := sL _ (by rw [emp_app, app_len, app_len, slash_len]; omega)
  rw [cl rfl]
  refine runD_eq rfl ?_
  show OQ (evSs (L n) b_fraction_text [some (.t (.tup [.int a, .int u]))] []) _
  repeat walk_at "e"
  refine ⟨fun hz => ?_, fun hz => ?_⟩
  · have hz : u = 1 := of_decide_eq_true hz
    repeat walk_at "e"
    show CR.ok (.t (.str (its a))) [] = _
    unfold ftext
    rw [if_pos hz]
  · have hz : ¬ u = 1 := of_decide_eq_false hz
    repeat walk_at "e"
    show CR.ok (.t (.str (Str.empty ++ its a ++ ("/" : Str) ++ its u))) [] = _
    unfold ftext
    rw [if_neg hz, emp_app]
theorem lawtext_c (n : Nat) {f : Fr} (hf : FrOk f) : (L (n + 1)).call 24 [.t (frT f)] = .ok (.t (.str (ftext f))) [] := by
  obtain ⟨a, u⟩ := f
  obtain ⟨h1, h2, h3, h4⟩ := hf
  have hu : u.natAbs ≤ 1000000 := by have h1 : 1 ≤ u := h1; have h2 : u ≤ 1000000 := h2; omega
  have a1 := its_len (i := a) h3
  have a2 := its_len (i := u) hu
  have s1 : bltT .str_ [.int a] = some (.t (.str (its a))) := if_pos (log_its h3)
  have s2 : bltT .str_ [.int u] = some (.t (.str (its u))) := if_pos (log_its hu)
  have l1 : (its a).length + ("/" : Str).length ≤ sizeLine := sL _ (by rw [slash_len]; omega)
  have l2 : (its a ++ ("/" : Str)).length + (its u).length ≤ sizeLine := sL _ (by rw [app_len, slash_len]; omega)
  rw [cl rfl]
  refine runD_eq rfl ?_
  show OQ (evSs (L n) b__law_text [some (.t (.tup [.int a, .int u]))] []) _
  repeat walk_at "e"
  refine ⟨fun hz => ?_, fun hz => ?_⟩
  · have hz : u = 1 := of_decide_eq_true hz
    repeat walk_at "e"
    show CR.ok (.t (.str (its a))) [] = _
    unfold ftext
    rw [if_pos hz]
  · have hz : ¬ u = 1 := of_decide_eq_false hz
    repeat walk_at "e"
    show CR.ok (.t (.str (its a ++ ("/" : Str) ++ its u))) [] = _
    unfold ftext
    rw [if_neg hz]
/-- a text in a column -/
def padL (n : Nat) (x : Str) : Str := x ++ spc (n - x.length)
def padR (n : Nat) (x : Str) : Str := spc (n - x.length) ++ x
theorem column_c (n : Nat) {x : Str} {w : Nat} {l : Bool} (hw : w ≤ 100) (hx : x.length ≤ 100000) : (L (n + 1)).call 29 [.t (.str x), .t (.int w), .t (.bl l)] = .ok (.t (.str (if l = true then padL w x else padR w x))) [] := by
  have hlen : bltT .len [.str x] = some (.t (.int (x.length : Nat))) := if_pos (sL _ (by omega))
  have hk : (if (w : Int) - (x.length : Int) > 0 then (w : Int) - (x.length : Int) else 0) = ((w - x.length : Nat) : Int) := by split <;> omega
  have hmul : op2 .mul (.str " ") (.int (if (w : Int) - (x.length : Int) > 0 then (w : Int) - (x.length : Int) else 0)) = some (.t (.str (spc (w - x.length)))) := by
    rw [op2_mul_s, mul_space, hk]
    · rfl
    · rw [hk]
      refine ⟨by omega, by omega, sL _ ?_⟩
      have : (" " : Str).length = 1 := by decide +kernel
      rw [this]; omega
  have l1 : x.length + (spc (w - x.length)).length ≤ sizeLine := sL _ (by rw [spc_len]; omega)
  have l2 : (spc (w - x.length)).length + x.length ≤ sizeLine := by omega
  rw [cl rfl]
  refine runD_eq rfl ?_
  show OQ (evSs (L n) b__law_column [some (.t (.str x)), some (.t (.int w)), some (.t (.bl l)), none] []) _
  repeat walk_at "e"
  refine ⟨fun hz => ?_, fun hz => ?_⟩
  · have hz : l = true := hz
    subst hz
    repeat walk_at "e"
    rfl
  · have hz : l = false := hz
    subst hz
    repeat walk_at "e"
    rfl
end Sy.K89
end

section
set_option Elab.async false
set_option linter.all false
set_option maxRecDepth 100000
/-! SyWr: more rules: a cell that is walked live, dicts, names of the module. -/
namespace Sy
theorem glb_at {T : Tab} {F : Nat} {G : List Sy.T} {n j : Nat} {t : Sy.T} (h : G[j]? = some t) : (T.lv F G n).glb[j]? = some t := by
  have : (T.lv F G n).glb = G := lv_glb ..
  rw [this]; exact h
end Sy
namespace Sy.Wp
open PySem L2
section
variable {C : Ctx} {ρ : Env} {μ : Sto} {K : OK}
theorem forC_inv {body : T → Env → Sto → O} {dr : List Nat} {en : Bool} {n : Nat} {xs : List T} (P : Nat → Env → Sto → Prop) (hl : ∀ i ρ μ, P i ρ μ → lstAt μ n = some xs)
    (hs : ∀ i x ρ μ, xs[i]? = some x → P i ρ μ → OQ (body (liveIt en i x) ρ μ) { nx := fun ρ μ => P (i + 1) (unset ρ dr) μ, ct := fun ρ μ => P (i + 1) (unset ρ dr) μ, bk := fun ρ μ => K.nx (unset ρ dr) μ, rt := K.rt })
    (he : ∀ ρ μ, P xs.length ρ μ → K.nx ρ μ) : ∀ {f i : Nat} {ρ : Env} {μ : Sto}, i ≤ xs.length → xs.length < f + i → P i ρ μ → OQ (forC body dr en n f i ρ μ) K
  | 0, i, _, _, h1, h2, _ => by omega
  | f + 1, i, ρ, μ, h1, h2, h0 => by
    show OQ (match lstAt μ n with
      | none => .bad
      | some xs => match xs[i]? with
        | none => .nx ρ μ
        | some x => match body (liveIt en i x) ρ μ with
          | .nx ρ μ => forC body dr en n f (i + 1) (unset ρ dr) μ
          | .ct ρ μ => forC body dr en n f (i + 1) (unset ρ dr) μ
          | .bk ρ μ => .nx (unset ρ dr) μ
          | o => o) K
    rw [hl _ _ _ h0]
    show OQ (match xs[i]? with
        | none => .nx ρ μ
        | some x => match body (liveIt en i x) ρ μ with
          | .nx ρ μ => forC body dr en n f (i + 1) (unset ρ dr) μ
          | .ct ρ μ => forC body dr en n f (i + 1) (unset ρ dr) μ
          | .bk ρ μ => .nx (unset ρ dr) μ
          | o => o) K
    by_cases hi : i < xs.length
    · have h := hs i _ ρ μ (List.getElem?_eq_getElem hi) h0
      rw [List.getElem?_eq_getElem hi]
      show OQ (match body (liveIt en i xs[i]) ρ μ with
          | .nx ρ μ => forC body dr en n f (i + 1) (unset ρ dr) μ
          | .ct ρ μ => forC body dr en n f (i + 1) (unset ρ dr) μ
          | .bk ρ μ => .nx (unset ρ dr) μ
          | o => o) K
      cases q : body (liveIt en i xs[i]) ρ μ with
      | nx ρ' μ' => rw [q] at h; exact forC_inv P hl hs he (by omega) (by omega) h
      | ct ρ' μ' => rw [q] at h; exact forC_inv P hl hs he (by omega) (by omega) h
      | bk ρ' μ' => rw [q] at h; exact h
      | rt w μ' => rw [q] at h; exact h
      | ex _ _ => rw [q] at h; exact h
      | bad => rw [q] at h; exact h
    · rw [List.getElem?_eq_none (by omega)]
      have : i = xs.length := by omega
      subst this
      exact he _ _ h0
theorem s_forc {dr : List Nat} {en : Bool} {e : Ex} {tg : Tg} {b : List Sm} (h : RQ (evE C e ρ μ) fun w μ => ∃ n, w = .loc n ∧ OQ (forC (fun x ρ μ => (asg C tg (.t x) ρ μ).out fun ρ μ => evSs C b ρ μ) dr en n C.fuel 0 ρ μ) K) : OQ (evS C (.forc dr en e tg b) ρ μ) K := by
  rw [evS]
  refine OQ.out (RQ.mono h fun w μ ⟨n, e, q⟩ => ?_)
  subst e; exact q
end
theorem dput_new {ks : List DK} {vs : List T} {k : DK} {v : T} (h : hasK ks k = false) : dput ks vs k v = (ks ++ [k], vs ++ [v]) := by
  unfold dput
  rw [if_neg (by rw [h]; simp)]
theorem hasK_f {ks : List DK} {k : DK} (h : k ∉ ks) : hasK ks k = false := by
  unfold hasK
  rw [List.any_eq_false]
  intro x hx
  simp only [decide_eq_true_eq]
  intro e
  exact h (e ▸ hx)
theorem hasK_t {ks : List DK} {k : DK} (h : k ∈ ks) : hasK ks k = true := by
  unfold hasK
  rw [List.any_eq_true]
  exact ⟨k, h, by simp⟩
theorem cmp_in_d {x : Str} {ks : List DK} {vs : List T} : cmpT .isIn (.str x) (.dct ks vs) = some (hasK ks (.inr x)) := rfl
theorem cmp_notin_d {x : Str} {ks : List DK} {vs : List T} : cmpT .notIn (.str x) (.dct ks vs) = some (!hasK ks (.inr x)) := rfl
theorem mapM_strs : ∀ xs : List Str, (xs.map T.str).mapM atom = some (xs.map V.str)
  | [] => rfl
  | x :: xs => by
    rw [List.map_cons, List.mapM_cons, mapM_strs xs]
    rfl
theorem cmp_in_strs {x : Str} {xs : List Str} : cmpT .isIn (.str x) (.lst (xs.map .str)) = some (inV (.str x) (xs.map .str)) := by
  show (match atom (.str x) with | none => none | some a => ((xs.map T.str).mapM atom).map fun ys => inV a ys) = _
  rw [mapM_strs]; rfl
theorem strs_map : ∀ xs : List Str, strsOf (xs.map T.str) = some xs
  | [] => rfl
  | x :: xs => by
    show (strsOf (xs.map T.str)).map (x :: ·) = _
    rw [strs_map xs]; rfl
end Sy.Wp
end

section
set_option Elab.async false
set_option linter.all false
set_option maxRecDepth 100000
set_option maxHeartbeats 0
/-! K89P6: sheets. -/
open Sy Sy.Wp
local macro_rules | `(tactic| walk_at "leaf") => `(tactic| first
  | assumption
  | exact op2_add_i | exact op2_sub_i
  | exact op2_mul_i (by first | exact .inl (.inr ⟨by decide, by decide⟩) | exact .inl (.inl ⟨by decide, by decide⟩) | exact .inl (.inr ⟨by omega, by omega⟩) | exact .inl (.inl ⟨by omega, by omega⟩))
  | exact op2_mod_i (by first | decide | omega)
  | exact op2_div_i (by first | exact ⟨by decide, by decide⟩ | assumption)
  | exact op2_pow_i (by first | exact ⟨by decide, by decide, by decide⟩ | assumption)
  | exact cmp_eq_i | exact cmp_lt_i | exact cmp_le_i | exact cmp_gt_i | exact cmp_ge_i | exact cmp_ne_i | exact cmp_eq_s | exact cmp_ne_s | exact cmp_eq_b | exact cmp_ne_b
  | assumption
  | exact op2_add_s (by assumption)
  | exact op2_add_l (by assumption)
  | exact op2_mul_l ⟨by first | decide | omega, by first | decide | omega, Nat.le_of_ble_eq_true rfl⟩
  | exact rfl)
local macro_rules | `(tactic| walk_at "e") => `(tactic| first
  | (with_reducible first
    | refine e_cst ?_ | refine e_op2 ?_ | refine e_cmp ?_ | refine e_idx ?_ | refine e_blt ?_ | refine e_bmt ?_ | refine e_call ?_ | refine e_att ?_ | refine e_isi ?_ | refine e_tup ?_ | refine e_lst ?_ | refine e_slc ?_ | refine e_mth ?_ | refine e_nt ?_ | refine e_neg ?_ | refine e_dct ?_ | refine e_ife ?_ | refine e_and ?_ | refine e_or ?_ | refine e_chn ?_ | refine e_new ?_ | refine e_fm ?_ | refine e_fst ?_ | refine e_comp ?_ | refine e_dcomp2 ?_ | refine e_lstg ?_ | refine e_newV0 ?_ | refine e_newV1 ?_ | refine e_lenO ?_ | refine s_forg ?_ | refine s_forc ?_
    | refine l_nil ?_ | refine l_cons ?_ | refine f_nil ?_ | refine f_cons ?_ | refine p_non ?_
    | refine t_cmp ?_ | refine t_nt ?_ | refine t_and ?_ | refine t_or ?_ | refine t_isi ?_ | refine t_call ?_ | refine t_idx ?_ | refine t_att ?_ | refine t_blt ?_ | refine t_chn ?_ | refine t_cst ?_
    | refine a_one ?_ | refine a_two ?_ | refine o_one ?_ | refine o_two ?_ | refine ta_nil ?_ | refine ta_cons ?_ | refine to_nil ?_ | refine to_cons ?_
    | refine i_seq ?_ | refine i_rng1 ?_ | refine i_enum ?_ | refine i_zip ?_ | refine i_items ?_ | refine cbody_s ?_ | refine frE_s ?_ | refine frP_s ?_ | refine obody_s ?_
    | refine gs_nil ?_ | refine gs_cons ?_ | refine gs_mcons ?_ | refine gs_mnil ?_ | refine g_sb ?_
    | refine fin_t ?_ | refine fin_f ?_ | refine fin_c ?_ | refine finA_t ?_ | refine finA_c ?_ | refine toT_t ?_ | refine toTs_n ?_ | refine toTs_c ?_
    | refine ss_n ?_ | refine ss_c ?_ | refine s_asg ?_ | refine s_par ?_ | refine s_atr ?_ | refine s_app ?_ | refine s_ex ?_ | refine s_ret ?_ | refine s_ret0 ?_ | refine s_ife ?_ | refine s_for ?_ | refine s_whl ?_ | refine s_pas ?_ | refine s_brk ?_ | refine s_cnt ?_)
  | ((with_reducible apply e_var); exact rfl) | ((with_reducible apply t_var); exact rfl) | ((with_reducible apply e_glb); first | exact Sy.glb_at rfl | exact rfl)
  | ((with_reducible apply g_nm); exact Nat.le_of_ble_eq_true rfl) | ((with_reducible apply g_tp); exact rfl; exact rfl)
  | ((with_reducible apply toT_l); exact rfl) | ((with_reducible apply si_lst); exact rfl; exact rfl) | ((with_reducible apply si_dct); exact rfl; exact rfl; first | assumption | exact Nat.le_of_ble_eq_true rfl)
  | ((with_reducible apply p_ex); (rw [evP] <;> simp))
  | ((with_reducible apply ex3); exact rfl; exact rfl; walk_at "leaf")
  | ((with_reducible apply ex4); exact rfl; exact rfl; exact rfl)
  | ((with_reducible apply ex2); exact rfl; walk_at "leaf")
  | ((with_reducible apply exA); exact rfl; exact rfl; exact rfl)
  | ((with_reducible apply ex1); exact rfl)
  | ((with_reducible apply setC_s); exact rfl)
  | ((with_reducible refine And.intro ?_ ?_); first | exact Nat.le_of_ble_eq_true rfl | (show isLstC _ _ = true; exact rfl) | assumption)
  | ((with_reducible apply br_t); first | assumption | exact rfl)
  | ((with_reducible apply br_f); first | assumption | exact rfl)
  | ((with_reducible apply bf_t); first | assumption | exact rfl)
  | ((with_reducible apply bf_f); first | assumption | exact rfl)
  | refine ss_c ?_)
namespace Sy.K89
open PySem L2 Sy.Wp _root_.K89
abbrev Rdg := Str × (Fr × Fr)
def rdT (r : Rdg) : T := .tup [.str r.1, spT r.2]
def RdOk (r : Rdg) : Prop := Nm r.1 ∧ SpOk r.2
structure Sht where
  name : Str
  kind : Str
  rds : List Rdg
structure ShOk (s : Sht) : Prop where
  name : Nm s.name
  kind : s.kind ∈ kinds6
  rds : ∀ r ∈ s.rds, RdOk r
  nd : (s.rds.map (·.1)).Nodup
  len : s.rds.length ≤ 6
def shT (s : Sht) : T := .tup [.str s.name, .str s.kind, .lst (s.rds.map rdT)]
def ksOf (rs : List Rdg) : List DK := rs.map fun r => .inr r.1
def vsOf (rs : List Rdg) : List T := rs.map fun r => spT r.2
def shO (s : Sht) : T := .obj 0 [.str s.name, .str s.kind, .dct (ksOf s.rds) (vsOf s.rds)]
theorem in_kinds {k : Str} (h : k ∈ kinds6) : cmpT .isIn (.str k) (.tup [.str "slanted", .str "turned", .str "mirrored", .str "stretched", .str "sized", .str "even"]) = some true := by
  simp only [kinds6, List.mem_cons, List.not_mem_nil, or_false] at h
  rcases h with rfl | rfl | rfl | rfl | rfl | rfl <;> decide +kernel
theorem kind_c (n : Nat) {k : Str} (h : k ∈ kinds6) : (L (n + 1)).call 4 [.t (.str k)] = .ok (.t (.bl true)) [] := by
  have c1 := in_kinds h
  rw [cl rfl]
  refine runD_eq rfl ?_
  show OQ (evSs (L n) b_is_kind [some (.t (.str k))] []) _
  repeat walk_at "e"
  rfl
theorem name_c (n : Nat) {x : Str} (h : Nm x) : (L (n + 1)).call 5 [.t (.str x)] = .ok (.t (.bl true)) [] := by
  obtain ⟨h1, h2, h3⟩ := h
  have hlen : bltT .len [.str x] = some (.t (.int (x.length : Nat))) := if_pos (sL _ (by omega))
  have c1 : cmpT .le (.int 1) (.int (x.length : Nat)) = some true := by
    show some (decide ((1 : Int) ≤ (x.length : Nat))) = _
    rw [decide_eq_true (by omega)]
  have c2 : cmpT .le (.int (x.length : Nat)) (.int 6) = some true := by
    show some (decide (((x.length : Nat) : Int) ≤ 6)) = _
    rw [decide_eq_true (by omega)]
  have b1 : bmT .stripC [.str x, .str "abcdefghijklmnopqrstuvwxyz"] = some (.t (.str Str.empty)) := by
    show (if x.length ≤ sizeLine then some (Nw.t (.str (Txt.stripChars x abc))) else none) = _
    rw [if_pos (sL _ (by omega)), let_strip h3]
  have c3 : cmpT .eq (.str Str.empty) (.str "") = some true := by decide +kernel
  rw [cl rfl]
  refine runD_eq rfl ?_
  show OQ (evSs (L n) b__is_name [some (.t (.str x))] []) _
  repeat walk_at "e"
  rfl
theorem reading_c (n : Nat) {r : Rdg} (h : RdOk r) : (L (n + 4)).call 6 [.t (rdT r)] = .ok (.t (.bl true)) [] := by
  rw [cl rfl]
  refine runD_eq rfl ?_
  show OQ (evSs (L (n + 3)) b__is_reading [some (.t (.tup [.str r.1, spT r.2]))] []) _
  repeat walk_at "e"
  refine evC_2 [] (name_c (n + 2) h.1) rfl (by decide) rfl ?_
  repeat walk_at "e"
  refine evC_2 [] (spot_c n h.2) rfl (by decide) rfl ?_
  repeat walk_at "e"
  rfl
theorem ksOf_take (rs : List Rdg) (i : Nat) (h : i < rs.length) : ksOf (rs.take i) ++ [.inr rs[i].1] = ksOf (rs.take (i + 1)) := by
  rw [List.take_succ, List.getElem?_eq_getElem h]
  simp only [ksOf, List.map_append, Option.toList, List.map_cons, List.map_nil]
theorem vsOf_take (rs : List Rdg) (i : Nat) (h : i < rs.length) : vsOf (rs.take i) ++ [spT rs[i].2] = vsOf (rs.take (i + 1)) := by
  rw [List.take_succ, List.getElem?_eq_getElem h]
  simp only [vsOf, List.map_append, Option.toList, List.map_cons, List.map_nil]
theorem ksOf_new {rs : List Rdg} (hn : (rs.map (·.1)).Nodup) {i : Nat} (h : i < rs.length) : hasK (ksOf (rs.take i)) (.inr rs[i].1) = false := by
  refine hasK_f fun hm => ?_
  simp only [ksOf, List.mem_map] at hm
  obtain ⟨r, hr, e⟩ := hm
  obtain ⟨j, hj, e2⟩ := List.mem_take_iff_getElem.mp hr
  have hj' : j < rs.length := by omega
  have e3 : rs[j].1 = rs[i].1 := by
    have := Sum.inr.inj e
    rw [← this, ← e2]
  have hij : i < j ∨ j < i := by omega
  rw [List.nodup_iff_pairwise_ne] at hn
  have := List.pairwise_iff_getElem.mp hn j i (by simpa using hj') (by simpa using h) (by omega)
  simp only [List.getElem_map] at this
  exact this e3
theorem sheet_init_c (n : Nat) {s : Sht} (hs : ShOk s) : (L (n + 5)).call 7 [.c (.obj 0 []), .t (.str s.name), .t (.str s.kind), .c (.lst (s.rds.map rdT))] = .ok (.t .non) [(.obj 0 [.str s.name, .str s.kind, .dct (ksOf s.rds) (vsOf s.rds)], false), (.lst (s.rds.map rdT), false)] := by
  obtain ⟨name, kind, rds⟩ := s
  obtain ⟨h1, h2, h3, h4, h5⟩ := hs
  have h3 : ∀ r ∈ rds, RdOk r := h3
  have h5 : rds.length ≤ 6 := h5
  have h4 : (rds.map (·.1)).Nodup := h4
  have c1 : cmpT .gt (.int ((rds.map rdT).length : Nat)) (.int 12) = some false := by
    show some (decide ((12 : Int) < ((rds.map rdT).length : Nat))) = _
    rw [decide_eq_false (by rw [List.length_map]; omega)]
  rw [cl rfl]
  refine runD_eq rfl ?_
  show OQ (evSs (L (n + 4)) b_Sheet___init__ [some (.loc 0), some (.t (.str name)), some (.t (.str kind)), some (.loc 1), none, none, none] [⟨.obj 0 [], false, false⟩, ⟨.lst (rds.map rdT), false, false⟩]) _
  repeat walk_at "e"
  refine evC_2 [⟨.obj 0 [], false, false⟩, ⟨.lst (rds.map rdT), false, false⟩] (name_c (n + 3) h1) rfl (by decide) rfl ?_
  repeat walk_at "e"
  refine evC_2 [⟨.obj 0 [], false, false⟩, ⟨.lst (rds.map rdT), false, false⟩] (kind_c (n + 3) h2) rfl (by decide) rfl ?_
  repeat walk_at "e"
  refine forC_inv (xs := rds.map rdT) (fun i ρ μ => ρ = [some (.loc 0), some (.t (.str name)), some (.t (.str kind)), some (.loc 1), some (.loc 2), none, none] ∧ μ = [⟨.obj 0 [], false, false⟩, ⟨.lst (rds.map rdT), false, false⟩, ⟨.dct (ksOf (rds.take i)) (vsOf (rds.take i)), false, false⟩]) ?_ ?_ ?_ (Nat.zero_le _) ?_ ⟨rfl, rfl⟩
  · rintro i _ _ ⟨rfl, rfl⟩; rfl
  · rintro i x _ _ hx ⟨rfl, rfl⟩
    have hi : i < rds.length := by
      rcases Nat.lt_or_ge i rds.length with z | z
      · exact z
      · rw [List.getElem?_eq_none (by rw [List.length_map]; exact z)] at hx; cases hx
    have hx : x = rdT rds[i] := by
      rw [List.getElem?_map, List.getElem?_eq_getElem hi] at hx
      exact (Option.some.inj hx).symm
    subst hx
    have hk := ksOf_new h4 hi
    have ci : cmpT .isIn (.str rds[i].1) (.dct (ksOf (rds.take i)) (vsOf (rds.take i))) = some false := by rw [cmp_in_d, hk]
    have hl : (ksOf (rds.take i)).length < sizeLine := by
      have : (ksOf (rds.take i)).length ≤ 6 := by simp only [ksOf, List.length_map, List.length_take]; omega
      exact Nat.lt_of_le_of_lt this (Nat.le_of_ble_eq_true rfl)
    refine OQ.out ?_
    show RQ (asg (L (n + 4)) (.tp [.nm 5, .nm 6]) (.t (.tup [.int (i : Int), .tup [.str rds[i].1, spT rds[i].2]])) _ _) _
    repeat walk_at "e"
    refine evC_2 [⟨.obj 0 [], false, false⟩, ⟨.lst (rds.map rdT), false, false⟩, ⟨.dct (ksOf (rds.take i)) (vsOf (rds.take i)), false, false⟩] (reading_c n (h3 _ (List.getElem_mem hi))) rfl (by decide) rfl ?_
    repeat walk_at "e"
    refine ⟨rfl, ?_⟩
    rw [dput_new hk, ksOf_take rds i hi, vsOf_take rds i hi]
    rfl
  · rintro _ _ ⟨rfl, rfl⟩
    repeat walk_at "e"
    refine ⟨rfl, ?_⟩
    rw [List.length_map, List.take_length]
    rfl
  · rw [List.length_map, fuelL]
    show rds.length < 1099511627776 + 0
    omega
end Sy.K89
end

section
set_option Elab.async false
set_option linter.all false
set_option maxRecDepth 100000
set_option maxHeartbeats 0
/-! K89P7: what is read off a sheet and a room; the checks. -/
open Sy Sy.Wp
local macro_rules | `(tactic| walk_at "leaf") => `(tactic| first
  | assumption
  | exact op2_add_i | exact op2_sub_i
  | exact op2_mul_i (by first | exact .inl (.inr ⟨by decide, by decide⟩) | exact .inl (.inl ⟨by decide, by decide⟩) | exact .inl (.inr ⟨by omega, by omega⟩) | exact .inl (.inl ⟨by omega, by omega⟩))
  | exact op2_mod_i (by first | decide | omega)
  | exact op2_div_i (by first | exact ⟨by decide, by decide⟩ | assumption)
  | exact op2_pow_i (by first | exact ⟨by decide, by decide, by decide⟩ | assumption)
  | exact cmp_eq_i | exact cmp_lt_i | exact cmp_le_i | exact cmp_gt_i | exact cmp_ge_i | exact cmp_ne_i | exact cmp_eq_s | exact cmp_ne_s | exact cmp_eq_b | exact cmp_ne_b
  | assumption
  | exact op2_add_s (by assumption)
  | exact op2_add_l (by assumption)
  | exact op2_mul_l ⟨by first | decide | omega, by first | decide | omega, Nat.le_of_ble_eq_true rfl⟩
  | exact rfl)
local macro_rules | `(tactic| walk_at "e") => `(tactic| first
  | (with_reducible first
    | refine e_cst ?_ | refine e_op2 ?_ | refine e_cmp ?_ | refine e_idx ?_ | refine e_blt ?_ | refine e_bmt ?_ | refine e_call ?_ | refine e_att ?_ | refine e_isi ?_ | refine e_tup ?_ | refine e_lst ?_ | refine e_slc ?_ | refine e_mth ?_ | refine e_nt ?_ | refine e_neg ?_ | refine e_dct ?_ | refine e_ife ?_ | refine e_and ?_ | refine e_or ?_ | refine e_chn ?_ | refine e_new ?_ | refine e_fm ?_ | refine e_fst ?_ | refine e_comp ?_ | refine e_dcomp2 ?_ | refine e_lstg ?_ | refine e_newV0 ?_ | refine e_newV1 ?_ | refine e_lenO ?_ | refine s_forg ?_ | refine s_forc ?_
    | refine l_nil ?_ | refine l_cons ?_ | refine f_nil ?_ | refine f_cons ?_ | refine p_non ?_
    | refine t_cmp ?_ | refine t_nt ?_ | refine t_and ?_ | refine t_or ?_ | refine t_isi ?_ | refine t_call ?_ | refine t_idx ?_ | refine t_att ?_ | refine t_blt ?_ | refine t_chn ?_ | refine t_cst ?_
    | refine a_one ?_ | refine a_two ?_ | refine o_one ?_ | refine o_two ?_ | refine ta_nil ?_ | refine ta_cons ?_ | refine to_nil ?_ | refine to_cons ?_
    | refine i_seq ?_ | refine i_rng1 ?_ | refine i_enum ?_ | refine i_zip ?_ | refine i_items ?_ | refine cbody_s ?_ | refine frE_s ?_ | refine frP_s ?_ | refine obody_s ?_
    | refine gs_nil ?_ | refine gs_cons ?_ | refine gs_mcons ?_ | refine gs_mnil ?_ | refine g_sb ?_
    | refine fin_t ?_ | refine fin_f ?_ | refine fin_c ?_ | refine finA_t ?_ | refine finA_c ?_ | refine toT_t ?_ | refine toTs_n ?_ | refine toTs_c ?_
    | refine ss_n ?_ | refine ss_c ?_ | refine s_asg ?_ | refine s_par ?_ | refine s_atr ?_ | refine s_app ?_ | refine s_ex ?_ | refine s_ret ?_ | refine s_ret0 ?_ | refine s_ife ?_ | refine s_for ?_ | refine s_whl ?_ | refine s_pas ?_ | refine s_brk ?_ | refine s_cnt ?_)
  | ((with_reducible apply e_var); exact rfl) | ((with_reducible apply t_var); exact rfl) | ((with_reducible apply e_glb); first | exact Sy.glb_at rfl | exact rfl)
  | ((with_reducible apply g_nm); exact Nat.le_of_ble_eq_true rfl) | ((with_reducible apply g_tp); exact rfl; exact rfl)
  | ((with_reducible apply toT_l); exact rfl) | ((with_reducible apply si_lst); exact rfl; exact rfl) | ((with_reducible apply si_dct); exact rfl; exact rfl; first | assumption | exact Nat.le_of_ble_eq_true rfl)
  | ((with_reducible apply p_ex); (rw [evP] <;> simp))
  | ((with_reducible apply ex3); exact rfl; exact rfl; walk_at "leaf")
  | ((with_reducible apply ex4); exact rfl; exact rfl; exact rfl)
  | ((with_reducible apply ex2); exact rfl; walk_at "leaf")
  | ((with_reducible apply exA); exact rfl; exact rfl; exact rfl)
  | ((with_reducible apply ex1); exact rfl)
  | ((with_reducible apply setC_s); exact rfl)
  | ((with_reducible refine And.intro ?_ ?_); first | exact Nat.le_of_ble_eq_true rfl | (show isLstC _ _ = true; exact rfl) | assumption)
  | ((with_reducible apply br_t); first | assumption | exact rfl)
  | ((with_reducible apply br_f); first | assumption | exact rfl)
  | ((with_reducible apply bf_t); first | assumption | exact rfl)
  | ((with_reducible apply bf_f); first | assumption | exact rfl)
  | refine ss_c ?_)
namespace Sy.K89
open PySem L2 Sy.Wp _root_.K89
theorem pairs_rds (rds : List Rdg) : pairsT ((ksOf rds).map keyT) (vsOf rds) = rds.map rdT := by
  induction rds with
  | nil => rfl
  | cons r rds ih =>
    show T.tup [.str r.1, spT r.2] :: pairsT ((ksOf rds).map keyT) (vsOf rds) = _
    rw [ih]; rfl
theorem le_szl {n m : Nat} (h : n ≤ m) (h2 : m ≤ 16777216) : n ≤ sizeLine := Nat.le_trans h h2
theorem lt_szl {n m : Nat} (h : n ≤ m) (h2 : m < 16777216) : n < sizeLine := Nat.lt_of_le_of_lt h h2
theorem readings_s (C : Ctx) {s : Sht} (hl : s.rds.length ≤ 100) : runD C f_Sheet_readings.fd [.t (shO s)] = .ok (.t (.lst (s.rds.map rdT))) [] := by
  obtain ⟨name, kind, rds⟩ := s
  have hl : rds.length ≤ 100 := hl
  refine runD_eq rfl ?_
  show OQ (evSs C b_Sheet_readings [some (.t (.obj 0 [.str name, .str kind, .dct (ksOf rds) (vsOf rds)])), none, none] []) _
  repeat walk_at "e"
  refine ⟨_, _, rfl, ?_⟩
  rw [pairs_rds]
  refine gath_inv (acc := []) (fun xs acc μ => ∃ r, xs = r.map rdT ∧ μ = [] ∧ acc ++ xs = rds.map rdT) ⟨rds, rfl, rfl, rfl⟩ ?_ ?_
  · rintro x xs acc _ ⟨r, e, rfl, e2⟩
    cases r with
    | nil => cases e
    | cons r rs =>
      obtain ⟨rfl, rfl⟩ := List.cons.inj e
      refine cbody_s ?_
      show RQ (asg C (.tp [.nm 1, .nm 2]) (.t (.tup [.str r.1, spT r.2])) _ _) _
      repeat walk_at "e"
      refine ⟨rfl, ?_⟩
      rw [← e2]; simp [rdT]
  · rintro acc _ ⟨r, e, rfl, e2⟩ vs e3
    have e3 : acc = vs := by simpa using e3
    subst e3
    have e2 : acc = rds.map rdT := by simpa using e2
    subst e2
    refine ⟨le_szl (m := 100) (by rw [List.length_map]; exact hl) (by decide), ?_⟩
    repeat walk_at "e"
    rfl
theorem readings_c (n : Nat) {s : Sht} (hl : s.rds.length ≤ 100) : (L (n + 1)).call 8 [.t (shO s)] = .ok (.t (.lst (s.rds.map rdT))) [] := by
  rw [cl rfl]; exact readings_s _ hl
def labs (rs : List Rdg) : List Str := rs.map (·.1)
theorem keys_rds (rs : List Rdg) : (ksOf rs).map keyT = (labs rs).map .str := by simp [ksOf, labs, keyT]
theorem smarks_c (n : Nat) {s : Sht} : (L (n + 1)).call 9 [.t (shO s)] = .ok (.t (.lst ((labs s.rds).map .str))) [] := by
  rw [cl rfl]
  refine runD_eq rfl ?_
  show OQ (evSs (L n) b_Sheet_marks [some (.t (.obj 0 [.str s.name, .str s.kind, .dct (ksOf s.rds) (vsOf s.rds)]))] []) _
  repeat walk_at "e"
  rw [← keys_rds]
  rfl
/-- a room -/
structure Rm where
  shs : List Sht
  loose : List T
  marks : List Str
def rmO (r : Rm) : T := .obj 1 [.lst (r.shs.map shO), .lst r.loose, .lst (r.marks.map .str)]
theorem sheets_c (n : Nat) {r : Rm} : (L (n + 1)).call 13 [.t (rmO r)] = .ok (.t (.lst (r.shs.map shO))) [] := by
  rw [cl rfl]
  refine runD_eq rfl ?_
  show OQ (evSs (L n) b_Room_sheets [some (.t (.obj 1 [.lst (r.shs.map shO), .lst r.loose, .lst (r.marks.map .str)]))] []) _
  repeat walk_at "e"
  rfl
theorem marks_c (n : Nat) {r : Rm} : (L (n + 1)).call 15 [.t (rmO r)] = .ok (.t (.lst (r.marks.map .str))) [] := by
  rw [cl rfl]
  refine runD_eq rfl ?_
  show OQ (evSs (L n) b_Room_marks [some (.t (.obj 1 [.lst (r.shs.map shO), .lst r.loose, .lst (r.marks.map .str)]))] []) _
  repeat walk_at "e"
  rfl
theorem rlen_c (n : Nat) {r : Rm} : (L (n + 1)).call 17 [.t (rmO r)] = .ok (.t (.int (r.shs.length : Nat))) [] := by
  rw [cl rfl]
  refine runD_eq rfl ?_
  show OQ (evSs (L n) b_Room___len__ [some (.t (.obj 1 [.lst (r.shs.map shO), .lst r.loose, .lst (r.marks.map .str)]))] []) _
  repeat walk_at "e"
  show CR.ok (.t (.int ((r.shs.map shO).length : Nat))) [] = _
  rw [List.length_map]
theorem names2_c (n : Nat) {r : Rm} (hl : r.shs.length ≤ 8) : (L (n + 1)).call 14 [.t (rmO r)] = .ok (.t (.lst ((r.shs.map Sht.name).map .str))) [] := by
  rw [cl rfl]
  refine runD_eq rfl ?_
  show OQ (evSs (L n) b_Room_names [some (.t (.obj 1 [.lst (r.shs.map shO), .lst r.loose, .lst (r.marks.map .str)])), none] []) _
  repeat walk_at "e"
  refine gath_inv (acc := []) (fun xs acc μ => ∃ l, xs = l.map shO ∧ μ = [] ∧ acc ++ (l.map Sht.name).map .str = (r.shs.map Sht.name).map .str) ⟨r.shs, rfl, rfl, rfl⟩ ?_ ?_
  · rintro x xs acc _ ⟨l, e, rfl, e2⟩
    cases l with
    | nil => cases e
    | cons s l =>
      obtain ⟨rfl, rfl⟩ := List.cons.inj e
      refine cbody_s ?_
      show RQ (asg (L n) (.nm 1) (.t (.obj 0 [.str s.name, .str s.kind, .dct (ksOf s.rds) (vsOf s.rds)])) _ _) _
      repeat walk_at "e"
      refine ⟨rfl, ?_⟩
      rw [← e2]; simp
  · rintro acc _ ⟨l, e, rfl, e2⟩ vs e3
    have e3 : acc = vs := by simpa using e3
    subst e3
    have : l = [] := by cases l with | nil => rfl | cons => cases e
    subst this
    have e2 : acc = (r.shs.map Sht.name).map .str := by simpa using e2
    subst e2
    refine ⟨le_szl (m := 8) (by rw [List.length_map, List.length_map]; exact hl) (by decide), ?_⟩
    repeat walk_at "e"
    rfl
theorem enum_map {α : Type} (f : α → T) : ∀ (xs : List α) (n : Nat), enumT n (xs.map f) = (xs.mapIdx fun i x => (n + i, x)).map fun p => .tup [.int (p.1 : Int), f p.2]
  | [], _ => rfl
  | x :: xs, n => by
    rw [List.map_cons]
    show T.tup [.int (n : Int), f x] :: enumT (n + 1) (xs.map f) = _
    rw [enum_map f xs (n + 1), List.mapIdx_cons, List.map_cons]
    congr 2
    simp [Nat.add_comm, Nat.add_left_comm]
theorem inV_f {x : Str} {xs : List Str} (h : x ∉ xs) : inV (.str x) (xs.map .str) = false := by
  unfold inV
  rw [List.any_eq_false]
  intro v hv
  obtain ⟨y, hy, rfl⟩ := List.mem_map.mp hv
  intro e
  have : y = x := by
    have := e
    simp [eqV] at this
    exact this
  exact h (this ▸ hy)
theorem inV_t {x : Str} {xs : List Str} (h : x ∈ xs) : inV (.str x) (xs.map .str) = true := by
  unfold inV
  rw [List.any_eq_true]
  exact ⟨.str x, List.mem_map.mpr ⟨x, h, rfl⟩, by simp [eqV]⟩
end Sy.K89
end

section
set_option Elab.async false
set_option linter.all false
set_option maxRecDepth 100000
/-! SyWs: sorted texts; keys put one behind another. -/
namespace Sy.Wp
open PySem L2
theorem str_ext2 {x y : Str} (h : x.cps.toList = y.cps.toList) : x = y := by
  obtain ⟨a⟩ := x; obtain ⟨b⟩ := y
  have : a = b := Array.ext' h
  rw [this]
theorem leS_iff {x y : Str} : leS x y = true ↔ x.cps.toList ≤ y.cps.toList := by
  unfold leS
  simp [List.not_lt]
theorem leS_total (x y : Str) : leS x y = true ∨ leS y x = true := by
  rw [leS_iff, leS_iff]; exact List.le_total _ _
theorem leS_anti {x y : Str} (h1 : leS x y = true) (h2 : leS y x = true) : x = y := str_ext2 (List.le_antisymm (leS_iff.mp h1) (leS_iff.mp h2))
theorem leS_trans {x y z : Str} (h1 : leS x y = true) (h2 : leS y z = true) : leS x z = true := leS_iff.mpr (List.le_trans (leS_iff.mp h1) (leS_iff.mp h2))
theorem insS_t {x y : Str} {l : List Str} (h : leS x y = true) : insS x (y :: l) = x :: y :: l := by
  show (if _ then _ else _) = _
  rw [if_pos h]
theorem insS_f {x y : Str} {l : List Str} (h : ¬ leS x y = true) : insS x (y :: l) = y :: insS x l := by
  show (if _ then _ else _) = _
  rw [if_neg h]
theorem insS_comm (x y : Str) : ∀ l, insS x (insS y l) = insS y (insS x l)
  | [] => by
    show insS x [y] = insS y [x]
    by_cases h1 : leS x y = true
    · by_cases h2 : leS y x = true
      · rw [leS_anti h1 h2]
      · rw [insS_t h1, insS_f h2]; rfl
    · have h2 := (leS_total x y).resolve_left h1
      rw [insS_f h1, insS_t h2]; rfl
  | z :: l => by
    by_cases hx : leS x z = true
    · by_cases hy : leS y z = true
      · rw [insS_t hx, insS_t hy]
        by_cases h1 : leS x y = true
        · by_cases h2 : leS y x = true
          · rw [leS_anti h1 h2]
          · rw [insS_t h1, insS_f h2, insS_t hy]
        · have h2 := (leS_total x y).resolve_left h1
          rw [insS_f h1, insS_t h2, insS_t hx]
      · have h1 : leS x y = true := by
          rcases leS_total x y with h | h
          · exact h
          · exact absurd (leS_trans h hx) hy
        have h2 : ¬ leS y x = true := fun h => hy (leS_trans h hx)
        rw [insS_f hy, insS_t hx, insS_t hx, insS_f h2, insS_f hy]
    · by_cases hy : leS y z = true
      · have h1 : ¬ leS x y = true := fun h => hx (leS_trans h hy)
        rw [insS_t hy, insS_f h1, insS_f hx, insS_t hy]
      · rw [insS_f hy, insS_f hx, insS_f hx, insS_f hy, insS_comm x y l]
theorem sortS_perm {l m : List Str} (h : l.Perm m) : sortS l = sortS m := by
  induction h with
  | nil => rfl
  | cons x _ ih => show insS x (sortS _) = insS x (sortS _); rw [ih]
  | swap x y l => exact insS_comm y x (sortS l)
  | trans _ _ h1 h2 => rw [h1, h2]
theorem insS_p (x : Str) : ∀ l, (insS x l).Perm (x :: l)
  | [] => .refl _
  | y :: l => by
    by_cases h : leS x y = true
    · rw [insS_t h]
    · rw [insS_f h]
      exact ((insS_p x l).cons y).trans (.swap x y l)
theorem sortS_p : ∀ l, (sortS l).Perm l
  | [] => .refl _
  | x :: l => (insS_p x (sortS l)).trans ((sortS_p l).cons x)
theorem nd_perm {l m : List Str} (h : l.Perm m) (hl : l.Nodup) : m.Nodup := h.nodup_iff.mp hl
/-- a pair as a dict comprehension makes it -/
def pairS (f : Str → T) (x : Str) : T := .tup [.str x, f x]
theorem pairOf_s (x : Str) (v : T) : pairOf (.tup [.str x, v]) = some (.inr x, v) := rfl
/-- the keys of a dict comprehension: each text once -/
theorem putAll_strs (f : Str → T) : ∀ (l rd : List Str) (vs : List T), rd.Nodup → ∃ (rd' : List Str) (vs' : List T), putAll (l.map fun x => .tup [.str x, f x]) (rd.map .inr) vs = some (rd'.map .inr, vs') ∧ rd'.Nodup ∧ ∀ x, x ∈ rd' ↔ x ∈ rd ∨ x ∈ l
  | [], rd, vs, h => ⟨rd, vs, rfl, h, fun x => by simp⟩
  | x :: l, rd, vs, h => by
    rw [List.map_cons]
    unfold putAll
    rw [pairOf_s]
    show ∃ (rd' : List Str) (vs' : List T), putAll (l.map fun x => .tup [.str x, f x]) (dput (rd.map .inr) vs (.inr x) (f x)).1 (dput (rd.map .inr) vs (.inr x) (f x)).2 = _ ∧ _
    by_cases hx : x ∈ rd
    · have h1 : hasK (rd.map Sum.inr : List DK) (.inr x) = true := hasK_t (List.mem_map.mpr ⟨x, hx, rfl⟩)
      have h2 : (dput (rd.map .inr) vs (.inr x) (f x)).1 = rd.map .inr := by unfold dput; rw [if_pos h1]
      rw [h2]
      obtain ⟨rd', vs', e, h3, h4⟩ := putAll_strs f l rd (dput (rd.map .inr) vs (.inr x) (f x)).2 h
      refine ⟨rd', vs', e, h3, fun z => ?_⟩
      rw [h4, List.mem_cons]
      constructor
      · rintro (q | q)
        · exact .inl q
        · exact .inr (.inr q)
      · rintro (q | q | q)
        · exact .inl q
        · exact .inl (q ▸ hx)
        · exact .inr q
    · have h1 : hasK (rd.map Sum.inr : List DK) (.inr x) = false := hasK_f fun hm => by
        obtain ⟨y, hy, e⟩ := List.mem_map.mp hm
        exact hx (Sum.inr.inj e ▸ hy)
      rw [dput_new h1]
      obtain ⟨rd', vs', e, h3, h4⟩ := putAll_strs f l (rd ++ [x]) (vs ++ [f x]) (by
        rw [List.nodup_append]
        exact ⟨h, by simp, fun a ha b hb => by
          simp at hb; subst hb; intro e; exact hx (e ▸ ha)⟩)
      refine ⟨rd', vs', by rw [← e, List.map_append]; rfl, h3, fun z => ?_⟩
      rw [h4, List.mem_append, List.mem_singleton, List.mem_cons, or_assoc]
/-- what stands in none of the sheets, put behind what does -/
theorem perm_rest {rd ms : List Str} (h1 : rd.Nodup) (h2 : ms.Nodup) (hs : ∀ x ∈ rd, x ∈ ms) (p : Str → Bool) (hp : ∀ x, p x = true ↔ x ∉ rd) : (rd ++ ms.filter p).Perm ms := by
  rw [List.perm_ext_iff_of_nodup]
  · intro x
    rw [List.mem_append, List.mem_filter, hp]
    constructor
    · rintro (q | q)
      · exact hs _ q
      · exact q.1
    · intro q
      by_cases hx : x ∈ rd
      · exact .inl hx
      · exact .inr ⟨q, hx⟩
  · rw [List.nodup_append]
    refine ⟨h1, h2.filter _, fun a ha b hb => ?_⟩
    rw [List.mem_filter, hp] at hb
    intro e
    exact hb.2 (e ▸ ha)
  · exact h2
end Sy.Wp
end

section
set_option Elab.async false
set_option linter.all false
set_option maxRecDepth 100000
set_option maxHeartbeats 0
/-! K89P8: a new room. -/
open Sy Sy.Wp
local macro_rules | `(tactic| walk_at "leaf") => `(tactic| first
  | assumption
  | exact op2_add_i | exact op2_sub_i
  | exact op2_mul_i (by first | exact .inl (.inr ⟨by decide, by decide⟩) | exact .inl (.inl ⟨by decide, by decide⟩) | exact .inl (.inr ⟨by omega, by omega⟩) | exact .inl (.inl ⟨by omega, by omega⟩))
  | exact op2_mod_i (by first | decide | omega)
  | exact op2_div_i (by first | exact ⟨by decide, by decide⟩ | assumption)
  | exact op2_pow_i (by first | exact ⟨by decide, by decide, by decide⟩ | assumption)
  | exact cmp_eq_i | exact cmp_lt_i | exact cmp_le_i | exact cmp_gt_i | exact cmp_ge_i | exact cmp_ne_i | exact cmp_eq_s | exact cmp_ne_s | exact cmp_eq_b | exact cmp_ne_b
  | assumption
  | exact op2_add_s (by assumption)
  | exact op2_add_l (by assumption)
  | exact op2_mul_l ⟨by first | decide | omega, by first | decide | omega, Nat.le_of_ble_eq_true rfl⟩
  | exact rfl)
local macro_rules | `(tactic| walk_at "e") => `(tactic| first
  | (with_reducible first
    | refine e_cst ?_ | refine e_op2 ?_ | refine e_cmp ?_ | refine e_idx ?_ | refine e_blt ?_ | refine e_bmt ?_ | refine e_call ?_ | refine e_att ?_ | refine e_isi ?_ | refine e_tup ?_ | refine e_lst ?_ | refine e_slc ?_ | refine e_mth ?_ | refine e_nt ?_ | refine e_neg ?_ | refine e_dct ?_ | refine e_ife ?_ | refine e_and ?_ | refine e_or ?_ | refine e_chn ?_ | refine e_new ?_ | refine e_fm ?_ | refine e_fst ?_ | refine e_comp ?_ | refine e_dcomp2 ?_ | refine e_lstg ?_ | refine e_newV0 ?_ | refine e_newV1 ?_ | refine e_lenO ?_ | refine s_forg ?_ | refine s_forc ?_
    | refine l_nil ?_ | refine l_cons ?_ | refine f_nil ?_ | refine f_cons ?_ | refine p_non ?_
    | refine t_cmp ?_ | refine t_nt ?_ | refine t_and ?_ | refine t_or ?_ | refine t_isi ?_ | refine t_call ?_ | refine t_idx ?_ | refine t_att ?_ | refine t_blt ?_ | refine t_chn ?_ | refine t_cst ?_
    | refine a_one ?_ | refine a_two ?_ | refine o_one ?_ | refine o_two ?_ | refine ta_nil ?_ | refine ta_cons ?_ | refine to_nil ?_ | refine to_cons ?_
    | refine i_seq ?_ | refine i_rng1 ?_ | refine i_enum ?_ | refine i_zip ?_ | refine i_items ?_ | refine cbody_s ?_ | refine frE_s ?_ | refine frP_s ?_ | refine obody_s ?_
    | refine gs_nil ?_ | refine gs_cons ?_ | refine gs_mcons ?_ | refine gs_mnil ?_ | refine g_sb ?_
    | refine fin_t ?_ | refine fin_f ?_ | refine fin_c ?_ | refine finA_t ?_ | refine finA_c ?_ | refine toT_t ?_ | refine toTs_n ?_ | refine toTs_c ?_
    | refine ss_n ?_ | refine ss_c ?_ | refine s_asg ?_ | refine s_par ?_ | refine s_atr ?_ | refine s_app ?_ | refine s_ex ?_ | refine s_ret ?_ | refine s_ret0 ?_ | refine s_ife ?_ | refine s_for ?_ | refine s_whl ?_ | refine s_pas ?_ | refine s_brk ?_ | refine s_cnt ?_)
  | ((with_reducible apply e_var); exact rfl) | ((with_reducible apply t_var); exact rfl) | ((with_reducible apply e_glb); first | exact Sy.glb_at rfl | exact rfl)
  | ((with_reducible apply g_nm); exact Nat.le_of_ble_eq_true rfl) | ((with_reducible apply g_tp); exact rfl; exact rfl)
  | ((with_reducible apply toT_l); exact rfl) | ((with_reducible apply si_lst); exact rfl; exact rfl) | ((with_reducible apply si_dct); exact rfl; exact rfl; first | assumption | exact Nat.le_of_ble_eq_true rfl)
  | ((with_reducible apply p_ex); (rw [evP] <;> simp))
  | ((with_reducible apply ex3); exact rfl; exact rfl; walk_at "leaf")
  | ((with_reducible apply ex4); exact rfl; exact rfl; exact rfl)
  | ((with_reducible apply ex2); exact rfl; walk_at "leaf")
  | ((with_reducible apply exA); exact rfl; exact rfl; exact rfl)
  | ((with_reducible apply ex1); exact rfl)
  | ((with_reducible apply setC_s); exact rfl)
  | ((with_reducible refine And.intro ?_ ?_); first | exact Nat.le_of_ble_eq_true rfl | (show isLstC _ _ = true; exact rfl) | assumption)
  | ((with_reducible apply br_t); first | assumption | exact rfl)
  | ((with_reducible apply br_f); first | assumption | exact rfl)
  | ((with_reducible apply bf_t); first | assumption | exact rfl)
  | ((with_reducible apply bf_f); first | assumption | exact rfl)
  | refine ss_c ?_)
namespace Sy.K89
open PySem L2 Sy.Wp _root_.K89
structure RmOk (shs : List Sht) (ms : List Str) : Prop where
  ok : ∀ s ∈ shs, ShOk s
  nd : (shs.map Sht.name).Nodup
  ln : shs.length ≤ 8
  mok : ∀ m ∈ ms, Nm m
  mnd : ms.Nodup
  mln : ms.length ≤ 12
  sub : ∀ s ∈ shs, ∀ r ∈ s.rds, r.1 ∈ ms
theorem enum_mem {α : Type} {f : α → T} : ∀ {xs : List α} {n : Nat} {x : T}, x ∈ enumT n (xs.map f) → ∃ i a, a ∈ xs ∧ x = .tup [.int i, f a]
  | [], _, _, h => by cases h
  | a :: xs, n, x, h => by
    rw [List.map_cons] at h
    rcases List.mem_cons.mp h with rfl | h
    · exact ⟨_, a, List.mem_cons_self, rfl⟩
    · obtain ⟨i, b, hb, e⟩ := enum_mem h
      exact ⟨i, b, List.mem_cons_of_mem _ hb, e⟩
theorem nd_mid {α : Type} {d l : List α} {a : α} (h : (d ++ a :: l).Nodup) : a ∉ d := fun hm => by
  rw [List.nodup_append] at h
  exact h.2.2 a hm a List.mem_cons_self rfl
theorem check_sheets_c (n : Nat) {shs : List Sht} (hl : shs.length ≤ 8) (hn : (shs.map Sht.name).Nodup) : (L (n + 1)).call 10 [.t (.tup (shs.map shO))] = .ok (.t .non) [] := by
  have c1 : cmpT .gt (.int ((shs.map shO).length : Nat)) (.int 8) = some false := by
    show some (decide ((8 : Int) < ((shs.map shO).length : Nat))) = _
    rw [decide_eq_false (by rw [List.length_map]; omega)]
  rw [cl rfl]
  refine runD_eq rfl ?_
  show OQ (evSs (L n) b__check_sheets [some (.t (.tup (shs.map shO))), none, none, none] []) _
  refine ss_c ?_
  refine OQ.cut (fun ρ μ => ∃ o, ρ = [some (.t (.tup (shs.map shO))), none, o, none] ∧ μ = []) ?_ ?_
  · refine s_for ?_
    repeat walk_at "e"
    refine forL_inv (fun xs ρ μ => (∀ x ∈ xs, ∃ i s, x = .tup [.int i, shO s]) ∧ ∃ o, ρ = [some (.t (.tup (shs.map shO))), none, o, none] ∧ μ = []) ⟨fun x hx => ?_, none, rfl, rfl⟩ ?_ ?_
    · obtain ⟨i, s, _, e⟩ := enum_mem hx
      exact ⟨i, s, e⟩
    · rintro x r _ _ ⟨hx, o, rfl, rfl⟩
      obtain ⟨i, s, rfl⟩ := hx _ List.mem_cons_self
      refine OQ.out ?_
      repeat walk_at "e"
      exact ⟨fun x h => hx x (List.mem_cons_of_mem _ h), _, rfl, rfl⟩
    · rintro _ _ ⟨_, o, rfl, rfl⟩
      exact ⟨o, rfl, rfl⟩
  rintro _ _ ⟨o, rfl, rfl⟩
  repeat walk_at "e"
  refine forL_inv (fun xs ρ μ => ∃ d l o, xs = l.map shO ∧ shs = d ++ l ∧ ρ = [some (.t (.tup (shs.map shO))), some (.loc 0), o, none] ∧ μ = [⟨.lst ((d.map Sht.name).map .str), false, false⟩]) ⟨[], shs, o, rfl, rfl, rfl, rfl⟩ ?_ ?_
  · rintro x r _ _ ⟨d, l, o, e, hd, rfl, rfl⟩
    cases l with
    | nil => cases e
    | cons s l =>
      obtain ⟨rfl, rfl⟩ := List.cons.inj e
      have hni : s.name ∉ d.map Sht.name := by
        rw [hd, List.map_append] at hn
        exact nd_mid hn
      have ci : cmpT .isIn (.str s.name) (.lst ((d.map Sht.name).map .str)) = some false := by rw [cmp_in_strs, inV_f hni]
      have hll : ((d.map Sht.name).map T.str).length < sizeLine := lt_szl (m := 8) (by
        rw [List.length_map, List.length_map]
        have := congrArg List.length hd
        rw [List.length_append] at this; omega) (by decide)
      refine OQ.out ?_
      show RQ (asg (L n) (.nm 2) (.t (.obj 0 [.str s.name, .str s.kind, .dct (ksOf s.rds) (vsOf s.rds)])) _ _) _
      repeat walk_at "e"
      refine ⟨d ++ [s], l, _, rfl, by rw [hd]; simp, rfl, ?_⟩
      simp
  · rintro _ _ ⟨d, l, o, e, hd, rfl, rfl⟩
    repeat walk_at "e"
    exact ⟨rfl, rfl⟩
theorem check_marks_c (n : Nat) {ms : List Str} (hm : ∀ m ∈ ms, Nm m) (hn : ms.Nodup) (hl : ms.length ≤ 12) : (L (n + 2)).call 11 [.t (.lst (ms.map .str))] = .ok (.t .non) [] := by
  rw [cl rfl]
  refine runD_eq rfl ?_
  show OQ (evSs (L (n + 1)) b__check_marks [some (.t (.lst (ms.map .str))), none, none, none] []) _
  repeat walk_at "e"
  refine forL_inv (fun xs ρ μ => ∃ d l k, xs = enumT k (l.map .str) ∧ ms = d ++ l ∧ ρ = [some (.t (.lst (ms.map .str))), some (.loc 0), none, none] ∧ μ = [⟨.dct (d.map .inr) (d.map fun _ => .bl true), false, false⟩]) ⟨[], ms, 0, rfl, rfl, rfl, rfl⟩ ?_ ?_
  · rintro x r _ _ ⟨d, l, k, e, hd, rfl, rfl⟩
    cases l with
    | nil => cases e
    | cons m l =>
      obtain ⟨rfl, rfl⟩ := List.cons.inj e
      have hni : m ∉ d := nd_mid (hd ▸ hn)
      have hk : hasK (d.map Sum.inr : List DK) (.inr m) = false := hasK_f fun h => by
        obtain ⟨y, hy, e⟩ := List.mem_map.mp h
        exact hni (Sum.inr.inj e ▸ hy)
      have ci : cmpT .isIn (.str m) (.dct (d.map .inr) (d.map fun _ => .bl true)) = some false := by rw [cmp_in_d, hk]
      have hll : (d.map Sum.inr : List DK).length < sizeLine := lt_szl (m := 12) (by
        rw [List.length_map]
        have := congrArg List.length hd
        rw [List.length_append] at this; omega) (by decide)
      have hmm : m ∈ ms := by rw [hd]; simp
      refine OQ.out ?_
      repeat walk_at "e"
      refine evC_2 [⟨.dct (d.map .inr) (d.map fun _ => .bl true), false, false⟩] (name_c n (hm m hmm)) rfl (by decide) rfl ?_
      repeat walk_at "e"
      refine ⟨d ++ [m], l, k + 1, rfl, by rw [hd]; simp, rfl, ?_⟩
      rw [dput_new hk]
      simp
  · rintro _ _ ⟨d, l, k, e, hd, rfl, rfl⟩
    repeat walk_at "e"
    exact ⟨rfl, rfl⟩
end Sy.K89
end

section
set_option Elab.async false
set_option linter.all false
set_option maxRecDepth 100000
set_option maxHeartbeats 0
/-! K89P9: Room.__init__. -/
open Sy Sy.Wp
local macro_rules | `(tactic| walk_at "leaf") => `(tactic| first
  | assumption
  | exact op2_add_i | exact op2_sub_i
  | exact op2_mul_i (by first | exact .inl (.inr ⟨by decide, by decide⟩) | exact .inl (.inl ⟨by decide, by decide⟩) | exact .inl (.inr ⟨by omega, by omega⟩) | exact .inl (.inl ⟨by omega, by omega⟩))
  | exact op2_mod_i (by first | decide | omega)
  | exact op2_div_i (by first | exact ⟨by decide, by decide⟩ | assumption)
  | exact op2_pow_i (by first | exact ⟨by decide, by decide, by decide⟩ | assumption)
  | exact cmp_eq_i | exact cmp_lt_i | exact cmp_le_i | exact cmp_gt_i | exact cmp_ge_i | exact cmp_ne_i | exact cmp_eq_s | exact cmp_ne_s | exact cmp_eq_b | exact cmp_ne_b
  | assumption
  | exact op2_add_s (by assumption)
  | exact op2_add_l (by assumption)
  | exact op2_mul_l ⟨by first | decide | omega, by first | decide | omega, Nat.le_of_ble_eq_true rfl⟩
  | exact rfl)
local macro_rules | `(tactic| walk_at "e") => `(tactic| first
  | (with_reducible first
    | refine e_cst ?_ | refine e_op2 ?_ | refine e_cmp ?_ | refine e_idx ?_ | refine e_blt ?_ | refine e_bmt ?_ | refine e_call ?_ | refine e_att ?_ | refine e_isi ?_ | refine e_tup ?_ | refine e_lst ?_ | refine e_slc ?_ | refine e_mth ?_ | refine e_nt ?_ | refine e_neg ?_ | refine e_dct ?_ | refine e_ife ?_ | refine e_and ?_ | refine e_or ?_ | refine e_chn ?_ | refine e_new ?_ | refine e_fm ?_ | refine e_fst ?_ | refine e_comp ?_ | refine e_dcomp2 ?_ | refine e_lstg ?_ | refine e_newV0 ?_ | refine e_newV1 ?_ | refine e_lenO ?_ | refine s_forg ?_ | refine s_forc ?_
    | refine l_nil ?_ | refine l_cons ?_ | refine f_nil ?_ | refine f_cons ?_ | refine p_non ?_
    | refine t_cmp ?_ | refine t_nt ?_ | refine t_and ?_ | refine t_or ?_ | refine t_isi ?_ | refine t_call ?_ | refine t_idx ?_ | refine t_att ?_ | refine t_blt ?_ | refine t_chn ?_ | refine t_cst ?_
    | refine a_one ?_ | refine a_two ?_ | refine o_one ?_ | refine o_two ?_ | refine ta_nil ?_ | refine ta_cons ?_ | refine to_nil ?_ | refine to_cons ?_
    | refine i_seq ?_ | refine i_rng1 ?_ | refine i_enum ?_ | refine i_zip ?_ | refine i_items ?_ | refine cbody_s ?_ | refine frE_s ?_ | refine frP_s ?_ | refine obody_s ?_
    | refine gs_nil ?_ | refine gs_cons ?_ | refine gs_mcons ?_ | refine gs_mnil ?_ | refine g_sb ?_
    | refine fin_t ?_ | refine fin_f ?_ | refine fin_c ?_ | refine finA_t ?_ | refine finA_c ?_ | refine toT_t ?_ | refine toTs_n ?_ | refine toTs_c ?_
    | refine ss_n ?_ | refine ss_c ?_ | refine s_asg ?_ | refine s_par ?_ | refine s_atr ?_ | refine s_app ?_ | refine s_ex ?_ | refine s_ret ?_ | refine s_ret0 ?_ | refine s_ife ?_ | refine s_for ?_ | refine s_whl ?_ | refine s_pas ?_ | refine s_brk ?_ | refine s_cnt ?_)
  | ((with_reducible apply e_var); exact rfl) | ((with_reducible apply t_var); exact rfl) | ((with_reducible apply e_glb); first | exact Sy.glb_at rfl | exact rfl)
  | ((with_reducible apply g_nm); exact Nat.le_of_ble_eq_true rfl) | ((with_reducible apply g_tp); exact rfl; exact rfl)
  | ((with_reducible apply toT_l); exact rfl) | ((with_reducible apply si_lst); exact rfl; exact rfl) | ((with_reducible apply si_dct); exact rfl; exact rfl; first | assumption | exact Nat.le_of_ble_eq_true rfl)
  | ((with_reducible apply p_ex); (rw [evP] <;> simp))
  | ((with_reducible apply ex3); exact rfl; exact rfl; walk_at "leaf")
  | ((with_reducible apply ex4); exact rfl; exact rfl; exact rfl)
  | ((with_reducible apply ex2); exact rfl; walk_at "leaf")
  | ((with_reducible apply exA); exact rfl; exact rfl; exact rfl)
  | ((with_reducible apply ex1); exact rfl)
  | ((with_reducible apply setC_s); exact rfl)
  | ((with_reducible refine And.intro ?_ ?_); first | exact Nat.le_of_ble_eq_true rfl | (show isLstC _ _ = true; exact rfl) | assumption)
  | ((with_reducible apply br_t); first | assumption | exact rfl)
  | ((with_reducible apply br_f); first | assumption | exact rfl)
  | ((with_reducible apply bf_t); first | assumption | exact rfl)
  | ((with_reducible apply bf_f); first | assumption | exact rfl)
  | refine ss_c ?_)
namespace Sy.K89
open PySem L2 Sy.Wp _root_.K89
def prB (x : Str) : T := .tup [.str x, .bl true]
def allL (shs : List Sht) : List Str := shs.flatMap fun s => labs s.rds
theorem allL_len : ∀ {shs : List Sht}, (∀ s ∈ shs, ShOk s) → (allL shs).length ≤ 6 * shs.length
  | [], _ => Nat.le_refl _
  | s :: shs, h => by
    have h1 := allL_len (shs := shs) fun s hs => h s (List.mem_cons_of_mem _ hs)
    have h2 := (h s List.mem_cons_self).len
    show (labs s.rds ++ allL shs).length ≤ _
    rw [List.length_append, List.length_cons]
    have : (labs s.rds).length = s.rds.length := by simp [labs]
    omega
theorem room_init_c (n : Nat) {shs : List Sht} {ms : List Str} (h : RmOk shs ms) : ∃ lo, (L (n + 3)).call 12 [.c (.obj 1 []), .t (.lst (ms.map .str)), .t (.tup (shs.map shO))] = .ok (.t .non) [(.obj 1 [.lst (shs.map shO), .lst lo, .lst ((sortS ms).map .str)], false)] := by
  suffices hs : ∃ r outs, (L (n + 3)).call 12 [.c (.obj 1 []), .t (.lst (ms.map .str)), .t (.tup (shs.map shO))] = .ok r outs ∧ ∃ lo, r = .t .non ∧ outs = [(.obj 1 [.lst (shs.map shO), .lst lo, .lst ((sortS ms).map .str)], false)] by
    obtain ⟨r, outs, e, lo, rfl, rfl⟩ := hs
    exact ⟨lo, e⟩
  obtain ⟨rd, vs, e1, hrd, hmem⟩ := putAll_strs (fun _ => .bl true) (allL shs) [] [] List.nodup_nil
  have hmem : ∀ x, x ∈ rd ↔ x ∈ allL shs := fun x => by rw [hmem]; simp
  have hsub : ∀ x ∈ rd, x ∈ ms := fun x hx => by
    obtain ⟨s, hs, hx⟩ := List.mem_flatMap.mp ((hmem x).mp hx)
    obtain ⟨r, hr, rfl⟩ := List.mem_map.mp hx
    exact h.sub s hs r hr
  have e1 : putAll ([] ++ (allL shs).map prB) [] [] = some (rd.map .inr, vs) := e1
  have hal : ([] ++ (allL shs).map prB).length ≤ sizeLine := le_szl (m := 48) (by
    have := allL_len h.ok
    have := h.ln
    rw [List.nil_append, List.length_map]; omega) (by decide)
  have hpm := perm_rest hrd h.mnd hsub (fun x => !hasK (rd.map Sum.inr : List DK) (.inr x)) fun x => by
    rw [Bool.not_eq_true']
    constructor
    · intro e hx
      rw [hasK_t (List.mem_map.mpr ⟨x, hx, rfl⟩)] at e; cases e
    · intro hx
      exact hasK_f fun h => by
        obtain ⟨y, hy, e⟩ := List.mem_map.mp h
        exact hx (Sum.inr.inj e ▸ hy)
  obtain ⟨lo, hlo⟩ : ∃ lo, lo = ms.filter fun x => !hasK (rd.map Sum.inr : List DK) (.inr x) := ⟨_, rfl⟩
  rw [← hlo] at hpm
  have hlen : rd.length + lo.length ≤ 12 := by
    have := hpm.length_eq
    rw [List.length_append] at this
    have := h.mln
    omega
  have c1 : cmpT .gt (.int (((rd.map Sum.inr : List DK).length : Nat) + ((lo.map T.str).length : Nat) : Int)) (.int 12) = some false := by
    show some (decide ((12 : Int) < (((rd.map Sum.inr : List DK).length : Nat) + ((lo.map T.str).length : Nat) : Int))) = _
    rw [decide_eq_false (by rw [List.length_map, List.length_map]; omega)]
  have s1 : bltT .sorted_ [.lst (lo.map .str)] = some (.c (.lst ((sortS lo).map .str))) := by
    show (match strsOf (lo.map T.str) with | some ys => if (lo.map T.str).length < 64 then some (Nw.c (.lst ((sortS ys).map .str))) else none | none => none) = _
    rw [strs_map]
    exact if_pos (by rw [List.length_map]; omega)
  have hkk : (rd.map Sum.inr : List DK).map keyT = rd.map .str := by simp [keyT]
  have s2 : bltT .sorted_ [.lst ((rd.map Sum.inr : List DK).map keyT ++ lo.map .str)] = some (.c (.lst ((sortS ms).map .str))) := by
    rw [hkk, ← List.map_append]
    show (match strsOf ((rd ++ lo).map T.str) with | some ys => if ((rd ++ lo).map T.str).length < 64 then some (Nw.c (.lst ((sortS ys).map .str))) else none | none => none) = _
    rw [strs_map, ← Sy.Wp.sortS_perm hpm]
    exact if_pos (by rw [List.length_map, List.length_append]; omega)
  have a1 : ((rd.map Sum.inr : List DK).map keyT).length + (lo.map T.str).length ≤ sizeLine := le_szl (m := 12) (by rw [List.length_map, List.length_map, List.length_map]; exact hlen) (by decide)
  rw [cl rfl]
  refine runD_s rfl ?_
  show OQ (evSs (L (n + 2)) b_Room___init__ [some (.loc 0), some (.t (.lst (ms.map .str))), some (.t (.tup (shs.map shO))), none, none, none, none] [⟨.obj 1 [], false, false⟩]) _
  repeat walk_at "e"
  refine evC_2 [⟨.obj 1 [], false, false⟩] (check_sheets_c (n + 1) h.ln h.nd) rfl (by decide) rfl ?_
  repeat walk_at "e"
  refine evC_2 [⟨.obj 1 [], false, false⟩] (check_marks_c n h.mok h.mnd h.mln) rfl (by decide) rfl ?_
  repeat walk_at "e"
  refine gath2_inv (acc := []) (fun xs acc μ => ∃ d l, xs = l.map shO ∧ shs = d ++ l ∧ acc = (allL d).map prB ∧ μ = [⟨.obj 1 [], false, false⟩]) ⟨[], shs, rfl, rfl, rfl, rfl⟩ ?_ ?_
  · rintro x xs acc _ ⟨d, l, e, hd, rfl, rfl⟩
    cases l with
    | nil => cases e
    | cons s l =>
      obtain ⟨rfl, rfl⟩ := List.cons.inj e
      refine obody_s ?_
      repeat walk_at "e"
      refine evC_2 [⟨.obj 1 [], false, false⟩] (smarks_c (n + 1) (s := s)) rfl (by decide) rfl ?_
      repeat walk_at "e"
      refine gath_inv (acc := []) (fun xs acc μ => ∃ d l, xs = l.map .str ∧ labs s.rds = d ++ l ∧ acc = d.map prB ∧ μ = [⟨.obj 1 [], false, false⟩]) ⟨[], labs s.rds, rfl, rfl, rfl, rfl⟩ ?_ ?_
      · rintro x xs acc _ ⟨d, l, e, hd, rfl, rfl⟩
        cases l with
        | nil => cases e
        | cons m l =>
          obtain ⟨rfl, rfl⟩ := List.cons.inj e
          repeat walk_at "e"
          refine ⟨d ++ [m], l, rfl, by rw [hd]; simp, ?_, rfl⟩
          rw [List.map_append]; rfl
      · rintro acc _ ⟨d', l', e, hd', rfl, rfl⟩ vs e3
        have : l' = [] := by cases l' with | nil => rfl | cons => cases e
        subst this
        rw [List.append_nil] at hd'
        rw [List.nil_append] at e3
        subst e3
        refine ⟨d ++ [s], l, rfl, by rw [hd]; simp, ?_, rfl⟩
        rw [← hd', ← List.map_append]
        simp [allL]
  · rintro acc _ ⟨d, l, e, hd, rfl, rfl⟩ vs' e3
    have : l = [] := by cases l with | nil => rfl | cons => cases e
    subst this
    rw [List.append_nil] at hd
    subst hd
    rw [List.nil_append] at e3
    subst e3
    refine KD_s e1 hal ?_
    repeat walk_at "e"
    refine gath_inv (acc := []) (fun xs acc μ => ∃ d l, xs = l.map .str ∧ ms = d ++ l ∧ acc = (d.filter fun x => !hasK (rd.map Sum.inr : List DK) (.inr x)).map .str ∧ μ = [⟨.obj 1 [], false, false⟩]) ⟨[], ms, rfl, rfl, rfl, rfl⟩ ?_ ?_
    · rintro x xs acc _ ⟨d, l, e, hd, rfl, rfl⟩
      cases l with
      | nil => cases e
      | cons m l =>
        obtain ⟨rfl, rfl⟩ := List.cons.inj e
        have cn : cmpT .notIn (.str m) (.dct (rd.map .inr) vs) = some (!hasK (rd.map Sum.inr : List DK) (.inr m)) := rfl
        repeat walk_at "e"
        refine ⟨fun hz => ?_, fun hz => ?_⟩
        · repeat walk_at "e"
          refine ⟨d ++ [m], l, rfl, by rw [hd]; simp, ?_, rfl⟩
          rw [List.filter_append, List.filter_cons, if_pos hz]
          simp
        · repeat walk_at "e"
          refine ⟨d ++ [m], l, rfl, by rw [hd]; simp, ?_, rfl⟩
          rw [List.filter_append, List.filter_cons, if_neg (by rw [hz]; simp)]
          simp
    · rintro acc _ ⟨d, l, e, hd, rfl, rfl⟩ vs' e3
      have : l = [] := by cases l with | nil => rfl | cons => cases e
      subst this
      rw [List.append_nil] at hd
      subst hd
      rw [List.nil_append, ← hlo] at e3
      subst e3
      refine ⟨le_szl (m := 12) (by rw [List.length_map]; omega) (by decide), ?_⟩
      repeat walk_at "e"
      first | rfl | exact ⟨rfl, rfl⟩
end Sy.K89
end

section
set_option Elab.async false
set_option linter.all false
set_option maxRecDepth 100000
/-! SyWt: new instances, loops unrolled, slices. -/
namespace Sy.Wp
open PySem L2
section
variable {C : Ctx} {ρ : Env} {μ : Sto} {K : OK} {Q : W → Sto → Prop}
theorem evN_2 {k : Bool} {c f : Nat} {ws : List W} {as : List Ar} {ns : List Nat} {o : Cell} {z : Bool} {outs : List (Cell × Bool)} (μ' : Sto) (e3 : C.call f (.c (.obj c []) :: as) = .ok (.t .non) ((o, z) :: outs)) (e1 : arsOf ws μ = some (as, ns)) (e2 : ns.Nodup) (e4 : putBack ns outs μ = μ') (h : RQ (fin (k && !z) (.c o) μ') Q) : RQ (evN C k c f ws μ) Q := evN_s e1 e2 e3 (e4 ▸ h)
theorem evN_f {c f : Nat} {ws : List W} {as : List Ar} {ns : List Nat} {o : Cell} {z : Bool} {outs : List (Cell × Bool)} (μ' : Sto) (e3 : C.call f (.c (.obj c []) :: as) = .ok (.t .non) ((o, z) :: outs)) (e1 : arsOf ws μ = some (as, ns)) (e2 : ns.Nodup) (e4 : putBack ns outs μ = μ') (h : Q (.t o.tree) μ') : RQ (evN C false c f ws μ) Q := evN_s e1 e2 e3 (e4 ▸ h)
theorem forL_nil {body : T → Env → Sto → O} {dr : List Nat} (h : K.nx ρ μ) : OQ (forL body dr [] ρ μ) K := h
theorem forL_cons {body : T → Env → Sto → O} {dr : List Nat} {x : T} {xs : List T} (h : OQ (body x ρ μ) { nx := fun ρ μ => OQ (forL body dr xs (unset ρ dr) μ) K, ct := fun ρ μ => OQ (forL body dr xs (unset ρ dr) μ) K, bk := fun ρ μ => K.nx (unset ρ dr) μ, rt := K.rt }) : OQ (forL body dr (x :: xs) ρ μ) K := by
  show OQ (match body x ρ μ with
    | .nx ρ μ => forL body dr xs (unset ρ dr) μ
    | .ct ρ μ => forL body dr xs (unset ρ dr) μ
    | .bk ρ μ => .nx (unset ρ dr) μ
    | o => o) K
  cases q : body x ρ μ with
  | nx ρ' μ' => rw [q] at h; exact h
  | ct ρ' μ' => rw [q] at h; exact h
  | bk ρ' μ' => rw [q] at h; exact h
  | rt w μ' => rw [q] at h; exact h
  | ex _ _ => rw [q] at h; exact h
  | bad => rw [q] at h; exact h
theorem s_body {tg : Tg} {b : List Sm} {x : T} (h : RQ (asg C tg (.t x) ρ μ) fun ρ μ => OQ (evSs C b ρ μ) K) : OQ ((asg C tg (.t x) ρ μ).out fun ρ μ => evSs C b ρ μ) K := OQ.out h
end
theorem cutL_to {α : Type} {xs : List α} {k : Int} (h : 0 ≤ k) : cutL xs none (some k) = xs.take k.toNat := by
  obtain ⟨k, rfl⟩ := Int.eq_ofNat_of_zero_le h
  unfold cutL
  have : HT.sIx xs.length xs.length (some (k : Int)) = min k xs.length := by
    show (if (k : Int) < 0 then ((k : Int) + (xs.length : Int)).toNat else min (k : Int).toNat xs.length) = _
    rw [if_neg (by omega), Int.toNat_natCast]
  rw [this]
  show (xs.drop 0).take (min k xs.length - 0) = xs.take ((k : Int).toNat)
  rw [List.drop_zero, Nat.sub_zero, Int.toNat_natCast, ← List.take_eq_take_min]
theorem cutL_from {α : Type} {xs : List α} {k : Int} (h : 0 ≤ k) : cutL xs (some k) none = xs.drop k.toNat := by
  obtain ⟨k, rfl⟩ := Int.eq_ofNat_of_zero_le h
  unfold cutL
  have : HT.sIx xs.length 0 (some (k : Int)) = min k xs.length := by
    show (if (k : Int) < 0 then ((k : Int) + (xs.length : Int)).toNat else min (k : Int).toNat xs.length) = _
    rw [if_neg (by omega), Int.toNat_natCast]
  rw [this]
  show (xs.drop (min k xs.length)).take (xs.length - min k xs.length) = xs.drop ((k : Int).toNat)
  rw [Int.toNat_natCast, List.take_of_length_le (by rw [List.length_drop]; omega)]
  by_cases h : k ≤ xs.length
  · rw [Nat.min_eq_left h]
  · rw [Nat.min_eq_right (by omega), List.drop_length, List.drop_eq_nil_of_le (by omega)]
end Sy.Wp
end

section
set_option Elab.async false
set_option linter.all false
set_option maxRecDepth 100000
set_option maxHeartbeats 0
/-! K89Pa: the drawn sheets and rooms are built. -/
open Sy Sy.Wp
local macro_rules | `(tactic| walk_at "leaf") => `(tactic| first
  | assumption
  | exact op2_add_i | exact op2_sub_i
  | exact op2_mul_i (by first | exact .inl (.inr ⟨by decide, by decide⟩) | exact .inl (.inl ⟨by decide, by decide⟩) | exact .inl (.inr ⟨by omega, by omega⟩) | exact .inl (.inl ⟨by omega, by omega⟩))
  | exact op2_mod_i (by first | decide | omega)
  | exact op2_div_i (by first | exact ⟨by decide, by decide⟩ | assumption)
  | exact op2_pow_i (by first | exact ⟨by decide, by decide, by decide⟩ | assumption)
  | exact cmp_eq_i | exact cmp_lt_i | exact cmp_le_i | exact cmp_gt_i | exact cmp_ge_i | exact cmp_ne_i | exact cmp_eq_s | exact cmp_ne_s | exact cmp_eq_b | exact cmp_ne_b
  | assumption
  | exact op2_add_s (by assumption)
  | exact op2_add_l (by assumption)
  | exact op2_mul_l ⟨by first | decide | omega, by first | decide | omega, Nat.le_of_ble_eq_true rfl⟩
  | exact rfl)
local macro_rules | `(tactic| walk_at "e") => `(tactic| first
  | (with_reducible first
    | refine e_cst ?_ | refine e_op2 ?_ | refine e_cmp ?_ | refine e_idx ?_ | refine e_blt ?_ | refine e_bmt ?_ | refine e_call ?_ | refine e_att ?_ | refine e_isi ?_ | refine e_tup ?_ | refine e_lst ?_ | refine e_slc ?_ | refine e_mth ?_ | refine e_nt ?_ | refine e_neg ?_ | refine e_dct ?_ | refine e_ife ?_ | refine e_and ?_ | refine e_or ?_ | refine e_chn ?_ | refine e_new ?_ | refine e_fm ?_ | refine e_fst ?_ | refine e_comp ?_ | refine e_dcomp2 ?_ | refine e_lstg ?_ | refine e_newV0 ?_ | refine e_newV1 ?_ | refine e_lenO ?_ | refine s_forg ?_ | refine s_forc ?_
    | refine l_nil ?_ | refine l_cons ?_ | refine f_nil ?_ | refine f_cons ?_ | refine p_non ?_
    | refine t_cmp ?_ | refine t_nt ?_ | refine t_and ?_ | refine t_or ?_ | refine t_isi ?_ | refine t_call ?_ | refine t_idx ?_ | refine t_att ?_ | refine t_blt ?_ | refine t_chn ?_ | refine t_cst ?_
    | refine a_one ?_ | refine a_two ?_ | refine o_one ?_ | refine o_two ?_ | refine ta_nil ?_ | refine ta_cons ?_ | refine to_nil ?_ | refine to_cons ?_
    | refine i_seq ?_ | refine i_rng1 ?_ | refine i_enum ?_ | refine i_zip ?_ | refine i_items ?_ | refine cbody_s ?_ | refine frE_s ?_ | refine frP_s ?_ | refine obody_s ?_
    | refine gs_nil ?_ | refine gs_cons ?_ | refine gs_mcons ?_ | refine gs_mnil ?_ | refine g_sb ?_
    | refine fin_t ?_ | refine fin_f ?_ | refine fin_c ?_ | refine finA_t ?_ | refine finA_c ?_ | refine toT_t ?_ | refine toTs_n ?_ | refine toTs_c ?_
    | refine ss_n ?_ | refine ss_c ?_ | refine s_asg ?_ | refine s_par ?_ | refine s_atr ?_ | refine s_app ?_ | refine s_ex ?_ | refine s_ret ?_ | refine s_ret0 ?_ | refine s_ife ?_ | refine s_for ?_ | refine s_whl ?_ | refine s_pas ?_ | refine s_brk ?_ | refine s_cnt ?_)
  | ((with_reducible apply e_var); exact rfl) | ((with_reducible apply t_var); exact rfl) | ((with_reducible apply e_glb); first | exact Sy.glb_at rfl | exact rfl)
  | ((with_reducible apply g_nm); exact Nat.le_of_ble_eq_true rfl) | ((with_reducible apply g_tp); exact rfl; exact rfl)
  | ((with_reducible apply toT_l); exact rfl) | ((with_reducible apply si_lst); exact rfl; exact rfl) | ((with_reducible apply si_dct); exact rfl; exact rfl; first | assumption | exact Nat.le_of_ble_eq_true rfl)
  | ((with_reducible apply p_ex); (rw [evP] <;> simp))
  | ((with_reducible apply ex3); exact rfl; exact rfl; walk_at "leaf")
  | ((with_reducible apply ex4); exact rfl; exact rfl; exact rfl)
  | ((with_reducible apply ex2); exact rfl; walk_at "leaf")
  | ((with_reducible apply exA); exact rfl; exact rfl; exact rfl)
  | ((with_reducible apply ex1); exact rfl)
  | ((with_reducible apply setC_s); exact rfl)
  | ((with_reducible refine And.intro ?_ ?_); first | exact Nat.le_of_ble_eq_true rfl | (show isLstC _ _ = true; exact rfl) | assumption)
  | ((with_reducible apply br_t); first | assumption | exact rfl)
  | ((with_reducible apply br_f); first | assumption | exact rfl)
  | ((with_reducible apply bf_t); first | assumption | exact rfl)
  | ((with_reducible apply bf_f); first | assumption | exact rfl)
  | refine ss_c ?_)
namespace Sy.K89
open PySem L2 Sy.Wp _root_.K89
theorem sheet_c (n : Nat) {s : Sht} (hs : ShOk s) : (L (n + 6)).call 27 [.t (shT s)] = .ok (.t (shO s)) [] := by
  have hl : (s.rds.map rdT).length < sizeLine := lt_szl (m := 6) (by rw [List.length_map]; exact hs.len) (by decide)
  rw [cl rfl]
  refine runD_eq rfl ?_
  show OQ (evSs (L (n + 5)) b__law_sheet [some (.t (.tup [.str s.name, .str s.kind, .lst (s.rds.map rdT)])), none, none, none, none] []) _
  refine ss_c ?_
  refine OQ.cut (fun ρ μ => ρ = [some (.t (.tup [.str s.name, .str s.kind, .lst (s.rds.map rdT)])), some (.loc 0), none, none, none] ∧ μ = [⟨.lst (s.rds.map rdT), false, false⟩]) ?_ ?_
  · repeat walk_at "e"
    refine gath_inv (acc := []) (fun xs acc μ => ∃ d l, xs = l.map rdT ∧ s.rds = d ++ l ∧ acc = d.map rdT ∧ μ = []) ⟨[], s.rds, rfl, rfl, rfl, rfl⟩ ?_ ?_
    · rintro x xs acc _ ⟨d, l, e, hd, rfl, rfl⟩
      cases l with
      | nil => cases e
      | cons m l =>
        obtain ⟨rfl, rfl⟩ := List.cons.inj e
        refine cbody_s ?_
        show RQ (asg _ (.tp [.nm 3, .nm 4]) (.t (.tup [.str m.1, spT m.2])) _ _) _
        repeat walk_at "e"
        refine ⟨d ++ [m], l, rfl, by rw [hd]; simp, ?_, rfl⟩
        rw [List.map_append]; rfl
    · rintro acc _ ⟨d, l, e, hd, rfl, rfl⟩ vs e3
      have : l = [] := by cases l with | nil => rfl | cons => cases e
      subst this
      rw [List.append_nil] at hd
      rw [List.nil_append, ← hd] at e3
      subst e3
      refine ⟨Nat.le_of_lt hl, ?_⟩
      repeat walk_at "e"
      exact ⟨rfl, rfl⟩
  rintro _ _ ⟨rfl, rfl⟩
  repeat walk_at "e"
  refine evN_f [⟨.lst (s.rds.map rdT), false, false⟩] (sheet_init_c n hs) rfl (by decide) rfl ?_
  repeat walk_at "e"
  rfl
theorem RmOk.pre {a b : List Sht} {ms : List Str} (h : RmOk (a ++ b) ms) : RmOk a ms where
  ok s hs := h.ok s (List.mem_append_left _ hs)
  nd := by have := h.nd; rw [List.map_append, List.nodup_append] at this; exact this.1
  ln := by have := h.ln; rw [List.length_append] at this; omega
  mok := h.mok
  mnd := h.mnd
  mln := h.mln
  sub s hs := h.sub s (List.mem_append_left _ hs)
theorem RmOk.sort {a : List Sht} {ms : List Str} (h : RmOk a ms) : RmOk a (sortS ms) where
  ok := h.ok
  nd := h.nd
  ln := h.ln
  mok m hm := h.mok m ((sortS_p ms).mem_iff.mp hm)
  mnd := ((sortS_p ms).nodup_iff).mpr h.mnd
  mln := by rw [(sortS_p ms).length_eq]; exact h.mln
  sub s hs r hr := (sortS_p ms).mem_iff.mpr (h.sub s hs r hr)
theorem sort_sort (ms : List Str) : sortS (sortS ms) = sortS ms := Sy.Wp.sortS_perm (sortS_p ms)
theorem with_c (n : Nat) {shs : List Sht} {s : Sht} {lo : List T} {ms : List Str} (h : RmOk (shs ++ [s]) ms) : ∃ lo', (L (n + 4)).call 16 [.t (rmO ⟨shs, lo, ms⟩), .t (shO s)] = .ok (.t (rmO ⟨shs ++ [s], lo', sortS ms⟩)) [] := by
  obtain ⟨lo', e1⟩ := room_init_c n h
  have hni : s.name ∉ shs.map Sht.name := by
    have := h.nd
    rw [List.map_append] at this
    exact nd_mid this
  have hl8 : shs.length ≤ 8 := h.pre.ln
  have hl : (shs.map shO).length < sizeLine := lt_szl (m := 8) (by rw [List.length_map]; exact hl8) (by decide)
  have hl2 : (shs.map shO ++ [shO s]).length ≤ sizeLine := by rw [List.length_append]; exact hl
  have ci : cmpT .notIn (.str s.name) (.lst ((shs.map Sht.name).map .str)) = some true := by
    show (cmpT .isIn (.str s.name) (.lst ((shs.map Sht.name).map .str))).map not = _
    rw [cmp_in_strs, inV_f hni]; rfl
  have e1 : (L (n + 3)).call 12 [.c (.obj 1 []), .t (.lst (ms.map .str)), .t (.tup (shs.map shO ++ [shO s]))] = .ok (.t .non) [(.obj 1 [.lst (shs.map shO ++ [shO s]), .lst lo', .lst ((sortS ms).map .str)], false)] := by
    rw [List.map_append] at e1; exact e1
  suffices hh : (L (n + 4)).call 16 [.t (rmO ⟨shs, lo, ms⟩), .t (shO s)] = .ok (.t (.obj 1 [.lst (shs.map shO ++ [shO s]), .lst lo', .lst ((sortS ms).map .str)])) [] by
    refine ⟨lo', hh.trans ?_⟩
    simp [rmO]
  rw [cl rfl]
  refine runD_eq rfl ?_
  show OQ (evSs (L (n + 3)) b_Room_with_sheet [some (.t (.obj 1 [.lst (shs.map shO), .lst lo, .lst (ms.map .str)])), some (.t (.obj 0 [.str s.name, .str s.kind, .dct (ksOf s.rds) (vsOf s.rds)])), none, none] []) _
  repeat walk_at "e"
  refine gath_inv (acc := []) (fun xs acc μ => ∃ d l, xs = l.map shO ∧ shs = d ++ l ∧ acc = d.map shO ∧ μ = []) ⟨[], shs, rfl, rfl, rfl, rfl⟩ ?_ ?_
  · rintro x xs acc _ ⟨d, l, e, hd, rfl, rfl⟩
    cases l with
    | nil => cases e
    | cons m l =>
      obtain ⟨rfl, rfl⟩ := List.cons.inj e
      have hne : decide (m.name = s.name) = false := decide_eq_false fun q => hni (List.mem_map.mpr ⟨m, by rw [hd]; simp, q⟩)
      refine cbody_s ?_
      show RQ (asg _ (.nm 3) (.t (.obj 0 [.str m.name, .str m.kind, .dct (ksOf m.rds) (vsOf m.rds)])) _ _) _
      repeat walk_at "e"
      refine ⟨d ++ [m], l, rfl, by rw [hd]; simp, ?_, rfl⟩
      rw [List.map_append]; rfl
  · rintro acc _ ⟨d, l, e, hd, rfl, rfl⟩ vs e3
    have : l = [] := by cases l with | nil => rfl | cons => cases e
    subst this
    rw [List.append_nil] at hd
    rw [List.nil_append, ← hd] at e3
    subst e3
    refine ⟨Nat.le_of_lt hl, ?_⟩
    repeat walk_at "e"
    refine evC_2 [⟨.lst (shs.map shO), false, false⟩] (names2_c (n + 2) (r := ⟨shs, lo, ms⟩) hl8) rfl (by decide) rfl ?_
    repeat walk_at "e"
    refine evN_f [⟨.lst (shs.map shO ++ [shO s]), false, true⟩] e1 rfl (by decide) rfl ?_
    repeat walk_at "e"
    rfl
def rT (shs : List Sht) (ms : List Str) : T := .tup [.lst (shs.map shT), .lst (ms.map .str)]
theorem room_c (n : Nat) {shs : List Sht} {ms : List Str} (h : RmOk shs ms) : ∃ lo, (L (n + 8)).call 28 [.t (rT shs ms)] = .ok (.t (rmO ⟨shs, lo, sortS ms⟩)) [] := by
  suffices hs : ∃ r outs, (L (n + 8)).call 28 [.t (rT shs ms)] = .ok r outs ∧ ∃ lo, r = .t (rmO ⟨shs, lo, sortS ms⟩) ∧ outs = [] by
    obtain ⟨r, outs, e, lo, rfl, rfl⟩ := hs
    exact ⟨lo, e⟩
  have hl : (shs.map shO).length ≤ sizeLine := le_szl (m := 8) (by rw [List.length_map]; exact h.ln) (by decide)
  rw [cl rfl]
  refine runD_s rfl ?_
  show OQ (evSs (L (n + 7)) b__law_room [some (.t (.tup [.lst (shs.map shT), .lst (ms.map .str)])), none, none, none, none, none] []) _
  refine ss_c ?_
  refine OQ.cut (fun ρ μ => ρ = [some (.t (.tup [.lst (shs.map shT), .lst (ms.map .str)])), none, none, some (.t (.lst (shs.map shO))), some (.t (.lst (ms.map .str))), none] ∧ μ = []) ?_ ?_
  · repeat walk_at "e"
    refine gath_inv (acc := []) (fun xs acc μ => ∃ d l, xs = l.map shT ∧ shs = d ++ l ∧ acc = d.map shO ∧ μ = []) ⟨[], shs, rfl, rfl, rfl, rfl⟩ ?_ ?_
    · rintro x xs acc _ ⟨d, l, e, hd, rfl, rfl⟩
      cases l with
      | nil => cases e
      | cons m l =>
        obtain ⟨rfl, rfl⟩ := List.cons.inj e
        refine cbody_s ?_
        repeat walk_at "e"
        refine evC_2 [] (sheet_c (n + 1) (s := m) (h.ok m (by rw [hd]; simp))) rfl (by decide) rfl ?_
        repeat walk_at "e"
        refine ⟨d ++ [m], l, rfl, by rw [hd]; simp, ?_, rfl⟩
        rw [List.map_append]; rfl
    · rintro acc _ ⟨d, l, e, hd, rfl, rfl⟩ vs e3
      have : l = [] := by cases l with | nil => rfl | cons => cases e
      subst this
      rw [List.append_nil] at hd
      rw [List.nil_append, ← hd] at e3
      subst e3
      refine ⟨hl, ?_⟩
      repeat walk_at "e"
      exact ⟨rfl, rfl⟩
  rintro _ _ ⟨rfl, rfl⟩
  match shs, h with
  | [], h =>
    obtain ⟨lo, e⟩ := room_init_c (n + 4) h
    repeat walk_at "e"
    refine evN_f [] e rfl (by decide) rfl ?_
    repeat walk_at "e"
    exact ⟨_, _, rfl, lo, rfl, rfl⟩
  | [a], h =>
    obtain ⟨lo, e⟩ := room_init_c (n + 4) h
    repeat walk_at "e"
    refine evN_f [] e rfl (by decide) rfl ?_
    repeat walk_at "e"
    exact ⟨_, _, rfl, lo, rfl, rfl⟩
  | [a, b], h =>
    obtain ⟨lo, e⟩ := room_init_c (n + 4) h
    repeat walk_at "e"
    refine evN_f [] e rfl (by decide) rfl ?_
    repeat walk_at "e"
    exact ⟨_, _, rfl, lo, rfl, rfl⟩
  | a :: b :: c :: r, h =>
    have c0 : cmpT .eq (.int (((a :: b :: c :: r).map shO).length : Nat)) (.int 0) = some false := by
      rw [cmp_eq_i, decide_eq_false (by rw [List.length_map]; simp only [List.length_cons]; omega)]
    have c1 : cmpT .eq (.int (((a :: b :: c :: r).map shO).length : Nat)) (.int 1) = some false := by
      rw [cmp_eq_i, decide_eq_false (by rw [List.length_map]; simp only [List.length_cons]; omega)]
    have c2 : cmpT .eq (.int (((a :: b :: c :: r).map shO).length : Nat)) (.int 2) = some false := by
      rw [cmp_eq_i, decide_eq_false (by rw [List.length_map]; simp only [List.length_cons]; omega)]
    have hs : slcT (.lst ((a :: b :: c :: r).map shO)) (some 3) none = some (.c (.lst (r.map shO))) := by
      show some (Nw.c (.lst (cutL _ _ _))) = _
      rw [cutL_from (by decide)]; rfl
    have i0 : idxT (.lst ((a :: b :: c :: r).map shO)) (.int 0) = some (shO a) := idx_l (by rw [atI_nn (by decide)]; rfl)
    have i1 : idxT (.lst ((a :: b :: c :: r).map shO)) (.int 1) = some (shO b) := idx_l (by rw [atI_nn (by decide)]; rfl)
    have i2 : idxT (.lst ((a :: b :: c :: r).map shO)) (.int 2) = some (shO c) := idx_l (by rw [atI_nn (by decide)]; rfl)
    obtain ⟨lo, e⟩ := room_init_c (n + 4) (RmOk.pre (a := [a, b, c]) (b := r) h)
    repeat walk_at "e"
    refine evN_f [] e rfl (by decide) rfl ?_
    repeat walk_at "e"
    refine forL_inv (fun xs ρ μ => ∃ d l lo, xs = l.map shO ∧ a :: b :: c :: r = d ++ l ∧ ρ = [some (.t (.tup [.lst ((a :: b :: c :: r).map shT), .lst (ms.map .str)])), some (.t (rmO ⟨d, lo, sortS ms⟩)), none, some (.t (.lst ((a :: b :: c :: r).map shO))), some (.t (.lst (ms.map .str))), none] ∧ μ = []) ⟨[a, b, c], r, lo, rfl, rfl, rfl, rfl⟩ ?_ ?_
    · rintro x xs _ _ ⟨d, l, lo, e, hd, rfl, rfl⟩
      cases l with
      | nil => cases e
      | cons m l =>
        obtain ⟨rfl, rfl⟩ := List.cons.inj e
        rw [hd, show d ++ m :: l = (d ++ [m]) ++ l by simp] at h
        obtain ⟨lo', e'⟩ := with_c (n + 3) (lo := lo) h.pre.sort
        rw [sort_sort] at e'
        refine OQ.out ?_
        repeat walk_at "e"
        refine evC_2 [] e' rfl (by decide) rfl ?_
        repeat walk_at "e"
        exact ⟨d ++ [m], l, lo', rfl, by rw [hd]; simp, rfl, rfl⟩
    · rintro _ _ ⟨d, l, lo, e, hd, rfl, rfl⟩
      have : l = [] := by cases l with | nil => rfl | cons => cases e
      subst this
      rw [List.append_nil] at hd
      repeat walk_at "e"
      exact ⟨_, _, rfl, lo, by rw [hd], rfl⟩
end Sy.K89
end

section
set_option Elab.async false
set_option linter.all false
set_option maxRecDepth 100000
/-! SyWu: generators, read from the end; lists held against the empty list. -/
namespace Sy.Wp
open PySem L2
def GQ (r : GO) (P : List T → Env → Prop) : Prop := ∃ ys ρ, r = (ys, .nx ρ []) ∧ P ys ρ
section
variable {C : Ctx} {ρ : Env} {P : List T → Env → Prop}
theorem out0_s {α : Type} {r : R α} {f : α → GO} (h : RQ r fun a μ => μ = [] ∧ GQ (f a) P) : GQ (r.out0 f) P := by
  cases r with
  | ok a μ => obtain ⟨rfl, h⟩ := h; exact h
  | exc _ _ => exact h.elim
  | bad => exact h.elim
theorem gg_nil (h : P [] ρ) : GQ (evGs C [] ρ) P := ⟨[], ρ, by rw [evGs], h⟩
theorem gg_cons {s : Gm} {ss : List Gm} (h : GQ (evG C s ρ) fun ys ρ => GQ (evGs C ss ρ) fun zs ρ => P (ys ++ zs) ρ) : GQ (evGs C (s :: ss) ρ) P := by
  obtain ⟨ys, ρ1, e1, zs, ρ2, e2, q⟩ := h
  refine ⟨ys ++ zs, ρ2, ?_, q⟩
  rw [evGs, e1]
  show (evGs C ss ρ1).pre ys = _
  rw [e2]; rfl
theorem gg_yld {e : Ex} (h : RQ (evE C e ρ []) fun w μ => RQ (toT w μ) fun t μ => μ = [] ∧ P [t] ρ) : GQ (evG C (.yld e) ρ) P := by
  rw [evG]
  cases q : evE C e ρ [] with
  | ok w μ =>
    rw [q] at h
    have h : RQ (toT w μ) fun t μ => μ = [] ∧ P [t] ρ := h
    show GQ ((toT w μ).outG fun t μ => ([t], .nx ρ μ)) P
    cases q2 : toT w μ with
    | ok t μ' =>
      rw [q2] at h
      obtain ⟨rfl, h⟩ := h
      exact ⟨[t], ρ, rfl, h⟩
    | exc _ _ => rw [q2] at h; exact h.elim
    | bad => rw [q2] at h; exact h.elim
  | exc _ _ => rw [q] at h; exact h.elim
  | bad => rw [q] at h; exact h.elim
theorem gg_ife {c : Ex} {a b : List Gm} (h : RQ (evT C c ρ []) fun z μ => μ = [] ∧ (z = true → GQ (evGs C a ρ) P) ∧ (z = false → GQ (evGs C b ρ) P)) : GQ (evG C (.ife c a b) ρ) P := by
  rw [evG]
  refine out0_s (RQ.mono h fun z μ ⟨e, q1, q2⟩ => ⟨e, ?_⟩)
  cases z with
  | true => exact q1 rfl
  | false => exact q2 rfl
theorem gg_for {dr : List Nat} {it : It} {tg : Tg} {b : List Gm} (h : RQ (evI C it ρ []) fun xs μ => μ = [] ∧ GQ (forG (fun x ρ => (asg C tg (.t x) ρ []).out0 fun ρ => evGs C b ρ) dr xs ρ) P) : GQ (evG C (.for_ dr it tg b) ρ) P := by
  rw [evG]
  exact out0_s h
theorem gg_pl {s : Sm} (h : OQ (evS C s ρ []) { nx := fun ρ μ => μ = [] ∧ P [] ρ }) : GQ (evG C (.pl s) ρ) P := by
  rw [evG]
  cases q : evS C s ρ [] with
  | nx ρ' μ => rw [q] at h; obtain ⟨rfl, h⟩ := h; exact ⟨[], ρ', rfl, h⟩
  | rt _ _ => rw [q] at h; exact h.elim
  | bk _ _ => rw [q] at h; exact h.elim
  | ct _ _ => rw [q] at h; exact h.elim
  | ex _ _ => rw [q] at h; exact h.elim
  | bad => rw [q] at h; exact h.elim
theorem forG_inv {F : T → Env → GO} {dr : List Nat} (I : List T → List T → Env → Prop) : ∀ {xs acc : List T} {ρ : Env} {P : List T → Env → Prop}, I xs acc ρ →
    (∀ x r acc ρ, I (x :: r) acc ρ → GQ (F x ρ) fun ys ρ => I r (acc ++ ys) (unset ρ dr)) → (∀ acc' ρ, I [] acc' ρ → ∀ ys, acc' = acc ++ ys → P ys ρ) → GQ (forG F dr xs ρ) P
  | [], acc, ρ, P, h0, _, he => ⟨[], ρ, rfl, he acc ρ h0 [] (by simp)⟩
  | x :: xs, acc, ρ, P, h0, hs, he => by
    obtain ⟨ys, ρ1, e1, h1⟩ := hs x xs acc ρ h0
    obtain ⟨zs, ρ2, e2, h2⟩ := forG_inv I (acc := acc ++ ys) (P := fun zs ρ => P (ys ++ zs) ρ) h1 hs fun acc' ρ' h' zs e => he acc' ρ' h' _ (by rw [e, List.append_assoc])
    refine ⟨ys ++ zs, ρ2, ?_, h2⟩
    show (match (F x ρ).2 with
      | .nx ρ' [] => (forG F dr xs (unset ρ' dr)).pre (F x ρ).1
      | .ct ρ' [] => (forG F dr xs (unset ρ' dr)).pre (F x ρ).1
      | .bk ρ' [] => ((F x ρ).1, .nx (unset ρ' dr) [])
      | _ => ([], .bad)) = _
    rw [e1]
    show (forG F dr xs (unset ρ1 dr)).pre ys = _
    rw [e2]; rfl
end
theorem runG_s {C : Ctx} {d : GD} {ts ys : List T} (hl : ts.length = d.np) (h : GQ (evGs C d.body (ts.map (fun t => some (.t t)) ++ List.replicate (d.nl - d.np) none)) fun zs _ => zs = ys) : runG C d ts = some ys := by
  obtain ⟨zs, ρ, e, rfl⟩ := h
  unfold runG
  rw [if_pos hl, e]
/-! shaped data -/
theorem canLays_of : ∀ {xs : List T}, (∀ x ∈ xs, (pd x).canLay0 = true) → PyData.canLayAll0 (pds xs) = true
  | [], _ => by simp [pds, PyData.canLayAll0]
  | x :: xs, h => by
    rw [pds, PyData.canLayAll0, h x List.mem_cons_self, canLays_of fun y hy => h y (List.mem_cons_of_mem _ hy)]; rfl
theorem depths_of {k : Nat} : ∀ {xs : List T}, (∀ x ∈ xs, (pd x).depth ≤ k) → PyData.depthAll (pds xs) ≤ k
  | [], _ => by simp [pds, PyData.depthAll]
  | x :: xs, h => by
    rw [pds, PyData.depthAll]
    exact Nat.max_le.mpr ⟨h x List.mem_cons_self, depths_of fun y hy => h y (List.mem_cons_of_mem _ hy)⟩
theorem shaped_lst {xs : List T} (h : ∀ x ∈ xs, (pd x).canLay0 = true ∧ (pd x).depth ≤ 60) : SeqAt.shaped (pd (.lst xs)) = true := by
  have h1 := canLays_of fun x hx => (h x hx).1
  have h2 := depths_of fun x hx => (h x hx).2
  rw [pd]
  unfold SeqAt.shaped
  rw [Bool.and_eq_true, decide_eq_true_eq, PyData.canLay0, PyData.depth]
  exact ⟨h1, by omega⟩
theorem eq_nil_lst {xs : List T} (h : ∀ x ∈ xs, (pd x).canLay0 = true ∧ (pd x).depth ≤ 60) : cmpT .eq (.lst xs) (.lst []) = some xs.isEmpty := by
  have h1 := shaped_lst h
  have h2 : SeqAt.shaped (pd (.lst [])) = true := shaped_lst (xs := []) (by simp)
  show (if SeqAt.shaped (pd (.lst xs)) && SeqAt.shaped (pd (.lst [])) then some (PyData.eqv (pd (.lst xs)) (pd (.lst []))) else none) = _
  rw [h1, h2]
  show some (PyData.eqv (pd (.lst xs)) (pd (.lst []))) = _
  cases xs with
  | nil => simp [pd, pds, PyData.eqv, PyData.eqvAll]
  | cons x xs => simp [pd, pds, PyData.eqv, PyData.eqvAll]
theorem all_true : ∀ (n : Nat), bltT .all_ [.lst (List.replicate n (.bl true))] = some (.t (.bl true))
  | n => by
    have h : ∀ n, blsOf (List.replicate n (.bl true)) = some (List.replicate n true) := by
      intro n
      induction n with
      | zero => rfl
      | succ n ih =>
        show (blsOf (List.replicate n (.bl true))).map (true :: ·) = _
        rw [ih]; rfl
    show (blsOf (List.replicate n (.bl true))).map (fun bs => Nw.t (.bl (bs.all id))) = _
    rw [h]
    simp
end Sy.Wp
end

section
set_option Elab.async false
set_option linter.all false
set_option maxRecDepth 100000
set_option maxHeartbeats 0
/-! K89Pb: _law_same. -/
open Sy Sy.Wp
local macro_rules | `(tactic| walk_at "leaf") => `(tactic| first
  | assumption
  | exact op2_add_i | exact op2_sub_i
  | exact op2_mul_i (by first | exact .inl (.inr ⟨by decide, by decide⟩) | exact .inl (.inl ⟨by decide, by decide⟩) | exact .inl (.inr ⟨by omega, by omega⟩) | exact .inl (.inl ⟨by omega, by omega⟩))
  | exact op2_mod_i (by first | decide | omega)
  | exact op2_div_i (by first | exact ⟨by decide, by decide⟩ | assumption)
  | exact op2_pow_i (by first | exact ⟨by decide, by decide, by decide⟩ | assumption)
  | exact cmp_eq_i | exact cmp_lt_i | exact cmp_le_i | exact cmp_gt_i | exact cmp_ge_i | exact cmp_ne_i | exact cmp_eq_s | exact cmp_ne_s | exact cmp_eq_b | exact cmp_ne_b
  | assumption
  | exact op2_add_s (by assumption)
  | exact op2_add_l (by assumption)
  | exact op2_mul_l ⟨by first | decide | omega, by first | decide | omega, Nat.le_of_ble_eq_true rfl⟩
  | exact rfl)
local macro_rules | `(tactic| walk_at "e") => `(tactic| first
  | (with_reducible first
    | refine e_cst ?_ | refine e_op2 ?_ | refine e_cmp ?_ | refine e_idx ?_ | refine e_blt ?_ | refine e_bmt ?_ | refine e_call ?_ | refine e_att ?_ | refine e_isi ?_ | refine e_tup ?_ | refine e_lst ?_ | refine e_slc ?_ | refine e_mth ?_ | refine e_nt ?_ | refine e_neg ?_ | refine e_dct ?_ | refine e_ife ?_ | refine e_and ?_ | refine e_or ?_ | refine e_chn ?_ | refine e_new ?_ | refine e_fm ?_ | refine e_fst ?_ | refine e_comp ?_ | refine e_dcomp2 ?_ | refine e_lstg ?_ | refine e_newV0 ?_ | refine e_newV1 ?_ | refine e_lenO ?_ | refine s_forg ?_ | refine s_forc ?_
    | refine l_nil ?_ | refine l_cons ?_ | refine f_nil ?_ | refine f_cons ?_ | refine p_non ?_
    | refine t_cmp ?_ | refine t_nt ?_ | refine t_and ?_ | refine t_or ?_ | refine t_isi ?_ | refine t_call ?_ | refine t_idx ?_ | refine t_att ?_ | refine t_blt ?_ | refine t_chn ?_ | refine t_cst ?_
    | refine a_one ?_ | refine a_two ?_ | refine o_one ?_ | refine o_two ?_ | refine ta_nil ?_ | refine ta_cons ?_ | refine to_nil ?_ | refine to_cons ?_
    | refine i_seq ?_ | refine i_rng1 ?_ | refine i_enum ?_ | refine i_zip ?_ | refine i_items ?_ | refine cbody_s ?_ | refine frE_s ?_ | refine frP_s ?_ | refine obody_s ?_
    | refine gs_nil ?_ | refine gs_cons ?_ | refine gs_mcons ?_ | refine gs_mnil ?_ | refine g_sb ?_
    | refine fin_t ?_ | refine fin_f ?_ | refine fin_c ?_ | refine finA_t ?_ | refine finA_c ?_ | refine toT_t ?_ | refine toTs_n ?_ | refine toTs_c ?_
    | refine gg_nil ?_ | refine gg_cons ?_ | refine gg_yld ?_ | refine gg_ife ?_ | refine gg_for ?_ | refine gg_pl ?_ | refine s_body ?_ | refine out0_s ?_
    | refine ss_n ?_ | refine ss_c ?_ | refine s_asg ?_ | refine s_par ?_ | refine s_atr ?_ | refine s_app ?_ | refine s_ex ?_ | refine s_ret ?_ | refine s_ret0 ?_ | refine s_ife ?_ | refine s_for ?_ | refine s_whl ?_ | refine s_pas ?_ | refine s_brk ?_ | refine s_cnt ?_)
  | ((with_reducible apply e_var); exact rfl) | ((with_reducible apply t_var); exact rfl) | ((with_reducible apply e_glb); first | exact Sy.glb_at rfl | exact rfl)
  | ((with_reducible apply g_nm); exact Nat.le_of_ble_eq_true rfl) | ((with_reducible apply g_tp); exact rfl; exact rfl)
  | ((with_reducible apply toT_l); exact rfl) | ((with_reducible apply si_lst); exact rfl; exact rfl) | ((with_reducible apply si_dct); exact rfl; exact rfl; first | assumption | exact Nat.le_of_ble_eq_true rfl)
  | ((with_reducible apply p_ex); (rw [evP] <;> simp))
  | ((with_reducible apply ex3); exact rfl; exact rfl; walk_at "leaf")
  | ((with_reducible apply ex4); exact rfl; exact rfl; exact rfl)
  | ((with_reducible apply ex2); exact rfl; walk_at "leaf")
  | ((with_reducible apply exA); exact rfl; exact rfl; exact rfl)
  | ((with_reducible apply ex1); exact rfl)
  | ((with_reducible apply setC_s); exact rfl)
  | ((with_reducible refine And.intro ?_ ?_); first | (with_reducible exact rfl) | exact Nat.le_of_ble_eq_true rfl | (show isLstC _ _ = true; exact rfl) | assumption)
  | ((with_reducible apply br_t); first | assumption | exact rfl)
  | ((with_reducible apply br_f); first | assumption | exact rfl)
  | ((with_reducible apply bf_t); first | assumption | exact rfl)
  | ((with_reducible apply bf_f); first | assumption | exact rfl)
  | refine ss_c ?_)
namespace Sy.K89
open PySem L2 Sy.Wp _root_.K89
theorem same_str (n : Nat) (x : Str) : (L (n + 1)).call 26 [.t (.str x), .t (.str x)] = .ok (.t (.bl true)) [] := by
  have c1 : cmpT .eq (.str x) (.str x) = some true := by rw [cmp_eq_s, decide_eq_true rfl]
  rw [cl rfl]
  refine runD_eq rfl ?_
  show OQ (evSs (L n) b__law_same [some (.t (.str x)), some (.t (.str x)), none, none, none] []) _
  repeat walk_at "e"
  rfl
theorem same_non (n : Nat) : (L (n + 1)).call 26 [.t .non, .t .non] = .ok (.t (.bl true)) [] := by
  rw [cl rfl]
  refine runD_eq rfl ?_
  show OQ (evSs (L n) b__law_same [some (.t .non), some (.t .non), none, none, none] []) _
  repeat walk_at "e"
  rfl
theorem same_lst (n : Nat) {xs : List T} (hl : xs.length ≤ 100000) (h : ∀ x ∈ xs, (L n).call 26 [.t x, .t x] = .ok (.t (.bl true)) []) : (L (n + 1)).call 26 [.t (.lst xs), .t (.lst xs)] = .ok (.t (.bl true)) [] := by
  have c1 : cmpT .eq (.int (xs.length : Nat)) (.int (xs.length : Nat)) = some true := by rw [cmp_eq_i, decide_eq_true rfl]
  have a1 := all_true xs.length
  rw [cl rfl]
  refine runD_eq rfl ?_
  show OQ (evSs (L n) b__law_same [some (.t (.lst xs)), some (.t (.lst xs)), none, none, none] []) _
  repeat walk_at "e"
  refine gath_inv (acc := []) (fun ps acc μ => ∃ d l, ps = pairsT l l ∧ xs = d ++ l ∧ acc = List.replicate d.length (.bl true) ∧ μ = []) ⟨[], xs, rfl, rfl, rfl, rfl⟩ ?_ ?_
  · rintro p ps acc _ ⟨d, l, e, hd, rfl, rfl⟩
    cases l with
    | nil => cases e
    | cons x l =>
      obtain ⟨rfl, rfl⟩ := List.cons.inj e
      refine cbody_s ?_
      repeat walk_at "e"
      refine evC_2 [] (h x (by rw [hd]; simp)) rfl (by decide) rfl ?_
      repeat walk_at "e"
      refine ⟨d ++ [x], l, rfl, by rw [hd]; simp, ?_, rfl⟩
      show List.replicate d.length (T.bl true) ++ List.replicate 1 (T.bl true) = _
      rw [List.replicate_append_replicate, List.length_append]; rfl
  · rintro acc _ ⟨d, l, e, hd, rfl, rfl⟩ vs e3
    have : l = [] := by cases l with | nil => rfl | cons => cases e
    subst this
    rw [List.append_nil] at hd
    rw [List.nil_append, ← hd] at e3
    subst e3
    refine ⟨le_szl (m := 100000) (by rw [List.length_replicate]; exact hl) (by decide), ?_⟩
    repeat walk_at "e"
    rfl
theorem same_cel (n : Nat) {xs : List T} (hl : xs.length ≤ 100000) (h : ∀ x ∈ xs, (L n).call 26 [.t x, .t x] = .ok (.t (.bl true)) []) : (L (n + 1)).call 26 [.c (.lst xs), .t (.lst xs)] = .ok (.t (.bl true)) [(.lst xs, true)] := by
  have c1 : cmpT .eq (.int (xs.length : Nat)) (.int (xs.length : Nat)) = some true := by rw [cmp_eq_i, decide_eq_true rfl]
  have a1 := all_true xs.length
  rw [cl rfl]
  refine runD_eq rfl ?_
  show OQ (evSs (L n) b__law_same [some (.loc 0), some (.t (.lst xs)), none, none, none] [⟨.lst xs, false, false⟩]) _
  repeat walk_at "e"
  refine gath_inv (acc := []) (fun ps acc μ => ∃ d l, ps = pairsT l l ∧ xs = d ++ l ∧ acc = List.replicate d.length (.bl true) ∧ μ = [⟨.lst xs, false, true⟩]) ⟨[], xs, rfl, rfl, rfl, rfl⟩ ?_ ?_
  · rintro p ps acc _ ⟨d, l, e, hd, rfl, rfl⟩
    cases l with
    | nil => cases e
    | cons x l =>
      obtain ⟨rfl, rfl⟩ := List.cons.inj e
      refine cbody_s ?_
      repeat walk_at "e"
      refine evC_2 [⟨.lst xs, false, true⟩] (h x (by rw [hd]; simp)) rfl (by decide) rfl ?_
      repeat walk_at "e"
      refine ⟨d ++ [x], l, rfl, by rw [hd]; simp, ?_, rfl⟩
      show List.replicate d.length (T.bl true) ++ List.replicate 1 (T.bl true) = _
      rw [List.replicate_append_replicate, List.length_append]; rfl
  · rintro acc _ ⟨d, l, e, hd, rfl, rfl⟩ vs e3
    have : l = [] := by cases l with | nil => rfl | cons => cases e
    subst this
    rw [List.append_nil] at hd
    rw [List.nil_append, ← hd] at e3
    subst e3
    refine ⟨le_szl (m := 100000) (by rw [List.length_replicate]; exact hl) (by decide), ?_⟩
    repeat walk_at "e"
    rfl
end Sy.K89
end

section
set_option Elab.async false
set_option linter.all false
set_option maxRecDepth 100000
set_option maxHeartbeats 0
/-! K89Pc: the lines, as the law writes them and as the listing yields them. -/
open Sy Sy.Wp
local macro_rules | `(tactic| walk_at "leaf") => `(tactic| first
  | (with_reducible assumption)
  | exact op2_add_i | exact op2_sub_i
  | exact op2_mul_i (by first | exact .inl (.inr ⟨by decide, by decide⟩) | exact .inl (.inl ⟨by decide, by decide⟩) | exact .inl (.inr ⟨by omega, by omega⟩) | exact .inl (.inl ⟨by omega, by omega⟩))
  | exact op2_mod_i (by first | decide | omega)
  | exact op2_div_i (by first | exact ⟨by decide, by decide⟩ | assumption)
  | exact op2_pow_i (by first | exact ⟨by decide, by decide, by decide⟩ | assumption)
  | exact cmp_eq_i | exact cmp_lt_i | exact cmp_le_i | exact cmp_gt_i | exact cmp_ge_i | exact cmp_ne_i | exact cmp_eq_s | exact cmp_ne_s | exact cmp_eq_b | exact cmp_ne_b
  | assumption
  | exact op2_add_s (by with_reducible assumption)
  | exact op2_add_l (by assumption)
  | exact op2_mul_l ⟨by first | decide | omega, by first | decide | omega, Nat.le_of_ble_eq_true rfl⟩
  | exact rfl)
local macro_rules | `(tactic| walk_at "e") => `(tactic| first
  | (with_reducible first
    | refine e_cst ?_ | refine e_op2 ?_ | refine e_cmp ?_ | refine e_idx ?_ | refine e_blt ?_ | refine e_bmt ?_ | refine e_call ?_ | refine e_att ?_ | refine e_isi ?_ | refine e_tup ?_ | refine e_lst ?_ | refine e_slc ?_ | refine e_mth ?_ | refine e_nt ?_ | refine e_neg ?_ | refine e_dct ?_ | refine e_ife ?_ | refine e_and ?_ | refine e_or ?_ | refine e_chn ?_ | refine e_new ?_ | refine e_fm ?_ | refine e_fst ?_ | refine e_comp ?_ | refine e_dcomp2 ?_ | refine e_lstg ?_ | refine e_newV0 ?_ | refine e_newV1 ?_ | refine e_lenO ?_ | refine s_forg ?_ | refine s_forc ?_
    | refine l_nil ?_ | refine l_cons ?_ | refine f_nil ?_ | refine f_cons ?_ | refine p_non ?_
    | refine t_cmp ?_ | refine t_nt ?_ | refine t_and ?_ | refine t_or ?_ | refine t_isi ?_ | refine t_call ?_ | refine t_idx ?_ | refine t_att ?_ | refine t_blt ?_ | refine t_chn ?_ | refine t_cst ?_
    | refine a_one ?_ | refine a_two ?_ | refine o_one ?_ | refine o_two ?_ | refine ta_nil ?_ | refine ta_cons ?_ | refine to_nil ?_ | refine to_cons ?_
    | refine i_seq ?_ | refine i_rng1 ?_ | refine i_enum ?_ | refine i_zip ?_ | refine i_items ?_ | refine cbody_s ?_ | refine frE_s ?_ | refine frP_s ?_ | refine obody_s ?_
    | refine gs_nil ?_ | refine gs_cons ?_ | refine gs_mcons ?_ | refine gs_mnil ?_ | refine g_sb ?_
    | refine fin_t ?_ | refine fin_f ?_ | refine fin_c ?_ | refine finA_t ?_ | refine finA_c ?_ | refine toT_t ?_ | refine toTs_n ?_ | refine toTs_c ?_
    | refine gg_nil ?_ | refine gg_cons ?_ | refine gg_yld ?_ | refine gg_ife ?_ | refine gg_for ?_ | refine gg_pl ?_ | refine s_body ?_ | refine out0_s ?_
    | refine ss_n ?_ | refine ss_c ?_ | refine s_asg ?_ | refine s_par ?_ | refine s_atr ?_ | refine s_app ?_ | refine s_ex ?_ | refine s_ret ?_ | refine s_ret0 ?_ | refine s_ife ?_ | refine s_for ?_ | refine s_whl ?_ | refine s_pas ?_ | refine s_brk ?_ | refine s_cnt ?_)
  | ((with_reducible apply e_var); exact rfl) | ((with_reducible apply t_var); exact rfl) | ((with_reducible apply e_glb); first | exact Sy.glb_at rfl | exact rfl)
  | ((with_reducible apply g_nm); exact Nat.le_of_ble_eq_true rfl) | ((with_reducible apply g_tp); exact rfl; exact rfl)
  | ((with_reducible apply toT_l); exact rfl) | ((with_reducible apply si_lst); exact rfl; exact rfl) | ((with_reducible apply si_dct); exact rfl; exact rfl; first | assumption | exact Nat.le_of_ble_eq_true rfl)
  | ((with_reducible apply p_ex); (rw [evP] <;> simp))
  | ((with_reducible apply ex3); exact rfl; exact rfl; walk_at "leaf")
  | ((with_reducible apply ex4); exact rfl; exact rfl; exact rfl)
  | ((with_reducible apply ex2); exact rfl; walk_at "leaf")
  | ((with_reducible apply exA); exact rfl; exact rfl; exact rfl)
  | ((with_reducible apply ex1); exact rfl)
  | ((with_reducible apply setC_s); exact rfl)
  | ((with_reducible refine And.intro ?_ ?_); first | (with_reducible exact rfl) | (with_reducible assumption) | assumption | exact Nat.le_of_ble_eq_true rfl | (show isLstC _ _ = true; exact rfl) | assumption)
  | ((with_reducible apply br_t); first | assumption | exact rfl)
  | ((with_reducible apply br_f); first | assumption | exact rfl)
  | ((with_reducible apply bf_t); first | assumption | exact rfl)
  | ((with_reducible apply bf_f); first | assumption | exact rfl)
  | refine ss_c ?_)
namespace Sy.K89
open PySem L2 Sy.Wp _root_.K89
def lineOf (nm : Str) (r : Rdg) : Str := padL 6 nm ++ " " ++ padL 6 r.1 ++ " " ++ padR 9 (ftext r.2.1) ++ " " ++ padR 9 (ftext r.2.2)
def nolineOf (nm : Str) : Str := padL 6 nm ++ " " ++ "-"
def linesOf (s : Sht) : List Str := if s.rds = [] then [nolineOf s.name] else s.rds.map (lineOf s.name)
theorem sp1 : (" " : Str).length = 1 := by decide +kernel
theorem da1 : ("-" : Str).length = 1 := by decide +kernel
theorem spda : (" -" : Str) = (" " : Str) ++ ("-" : Str) := by decide +kernel
theorem padL_len {n : Nat} {x : Str} (h : x.length ≤ 100000) (hn : n ≤ 100) : (padL n x).length ≤ 100100 := by
  unfold padL; rw [app_len, spc_len]; omega
theorem padR_len {n : Nat} {x : Str} (h : x.length ≤ 100000) (hn : n ≤ 100) : (padR n x).length ≤ 100100 := by
  unfold padR; rw [app_len, spc_len]; omega
theorem colL_c (n : Nat) {x : Str} (hx : x.length ≤ 100000) : (L (n + 1)).call 29 [.t (.str x), .t (.int 6), .t (.bl true)] = .ok (.t (.str (padL 6 x))) [] := column_c n (w := 6) (l := true) (by decide) hx
theorem colR_c (n : Nat) {x : Str} (hx : x.length ≤ 100000) : (L (n + 1)).call 29 [.t (.str x), .t (.int 9), .t (.bl false)] = .ok (.t (.str (padR 9 x))) [] := column_c n (w := 9) (l := false) (by decide) hx
theorem let_ok {x : Str} (h : Let x) : PyData.strOk x = true := by
  unfold PyData.strOk
  rw [Array.all_eq_true']
  intro c hc
  have := h c (by simpa using hc)
  simp; omega
theorem rd_shaped {r : Rdg} (h : Nm r.1) : (pd (rdT r)).canLay0 = true ∧ (pd (rdT r)).depth ≤ 60 := by
  have h1 := let_ok h.2.2
  constructor
  · simp [rdT, spT, frT, pd, pds, PyData.canLay0, PyData.canLayAll0, h1]
  · simp [rdT, spT, frT, pd, pds, PyData.depth, PyData.depthAll]
theorem eq_rds {rs : List Rdg} (h : ∀ r ∈ rs, RdOk r) : cmpT .eq (.lst (rs.map rdT)) (.lst []) = some (rs.map rdT).isEmpty := eq_nil_lst fun x hx => by
  obtain ⟨r, hr, rfl⟩ := List.mem_map.mp hx
  exact rd_shaped (h r hr).1
structure LnOk (nm : Str) (r : Rdg) : Prop where
  a1 : (padL 6 nm).length + (" " : Str).length ≤ sizeLine
  a2 : (padL 6 nm ++ " ").length + (padL 6 r.1).length ≤ sizeLine
  a3 : (padL 6 nm ++ " " ++ padL 6 r.1).length + (" " : Str).length ≤ sizeLine
  a4 : (padL 6 nm ++ " " ++ padL 6 r.1 ++ " ").length + (padR 9 (ftext r.2.1)).length ≤ sizeLine
  a5 : (padL 6 nm ++ " " ++ padL 6 r.1 ++ " " ++ padR 9 (ftext r.2.1)).length + (" " : Str).length ≤ sizeLine
  a6 : (padL 6 nm ++ " " ++ padL 6 r.1 ++ " " ++ padR 9 (ftext r.2.1) ++ " ").length + (padR 9 (ftext r.2.2)).length ≤ sizeLine
theorem lnOk {nm : Str} {r : Rdg} (h : Nm nm) (hr : RdOk r) : LnOk nm r := by
  have b1 := padL_len (n := 6) (x := nm) (by have := h.2.1; omega) (by decide)
  have b2 := padL_len (n := 6) (x := r.1) (by have := hr.1.2.1; omega) (by decide)
  have b3 := padR_len (n := 9) (x := ftext r.2.1) (by have := ftext_len hr.2.1; omega) (by decide)
  have b4 := padR_len (n := 9) (x := ftext r.2.2) (by have := ftext_len hr.2.2; omega) (by decide)
  constructor <;> refine sL _ ?_ <;> simp only [app_len, sp1] <;> omega
theorem lines_len : ∀ {shs : List Sht}, (∀ s ∈ shs, ShOk s) → (shs.flatMap linesOf).length ≤ 6 * shs.length
  | [], _ => Nat.le_refl _
  | s :: shs, h => by
    have h1 := lines_len (shs := shs) fun s hs => h s (List.mem_cons_of_mem _ hs)
    have h2 := (h s List.mem_cons_self).len
    rw [List.flatMap_cons, List.length_append, List.length_cons]
    have : (linesOf s).length ≤ 6 := by
      unfold linesOf
      split
      · simp
      · rw [List.length_map]; exact h2
    omega
theorem lines_c (n : Nat) {shs : List Sht} {ms : List Str} (h : RmOk shs ms) : (L (n + 2)).call 31 [.t (rT shs ms)] = .ok (.c (.lst ((shs.flatMap linesOf).map .str))) [] := by
  rw [cl rfl]
  refine runD_eq rfl ?_
  show OQ (evSs (L (n + 1)) b__law_lines [some (.t (.tup [.lst (shs.map shT), .lst (ms.map .str)])), none, none, none, none, none, none, none, none, none] []) _
  repeat walk_at "e"
  refine forL_inv (fun xs ρ μ => ∃ d l, xs = l.map shT ∧ shs = d ++ l ∧ ρ = [some (.t (.tup [.lst (shs.map shT), .lst (ms.map .str)])), some (.loc 0), none, none, none, none, none, none, none, none] ∧ μ = [⟨.lst ((d.flatMap linesOf).map .str), false, false⟩]) ⟨[], shs, rfl, rfl, rfl, rfl⟩ ?_ ?_
  · rintro x r _ _ ⟨d, l, e, hd, rfl, rfl⟩
    cases l with
    | nil => cases e
    | cons s l =>
      obtain ⟨rfl, rfl⟩ := List.cons.inj e
      have hs : ShOk s := h.ok s (by rw [hd]; simp)
      have hnl : s.name.length ≤ 100000 := by have := hs.name.2.1; omega
      have a1 : (padL 6 s.name).length + (" " : Str).length ≤ sizeLine := by
        have b1 := padL_len (n := 6) hnl (by decide)
        refine sL _ ?_; rw [sp1]; omega
      have a0 : (padL 6 s.name ++ " ").length + ("-" : Str).length ≤ sizeLine := by
        have b1 := padL_len (n := 6) hnl (by decide)
        refine sL _ ?_; rw [app_len, sp1, da1]; omega
      have hlen := lines_len h.ok
      have h8 := h.ln
      rw [hd, List.flatMap_append, List.flatMap_cons, List.length_append, List.length_append] at hlen
      have hdl : (d ++ s :: l).length = shs.length := by rw [← hd]
      rw [hdl] at hlen
      obtain ⟨name, kind, rds⟩ := s
      have hrd : ∀ r ∈ rds, RdOk r := hs.rds
      have ceq := eq_rds hrd
      refine s_body ?_
      show RQ (asg (L (n + 1)) (.tp [.nm 2, .nm 3, .nm 4]) (.t (.tup [.str name, .str kind, .lst (rds.map rdT)])) _ _) _
      repeat walk_at "e"
      refine evC_2 [⟨.lst ((d.flatMap linesOf).map .str), false, false⟩] (colL_c n hnl) rfl (by decide) rfl ?_
      cases rds with
      | nil =>
        have hll : ((d.flatMap linesOf).map T.str).length < sizeLine := lt_szl (m := 48) (by rw [List.length_map]; omega) (by decide)
        repeat walk_at "e"
        refine forL_nil ?_
        repeat walk_at "e"
        refine ⟨d ++ [⟨name, kind, []⟩], l, rfl, by rw [hd]; simp, rfl, ?_⟩
        rw [List.flatMap_append, List.map_append]
        rfl
      | cons r0 rs0 =>
        repeat walk_at "e"
        refine forL_inv (fun xs ρ μ => ∃ d' l', xs = l'.map rdT ∧ r0 :: rs0 = d' ++ l' ∧ ρ = [some (.t (.tup [.lst (shs.map shT), .lst (ms.map .str)])), some (.loc 0), some (.t (.str name)), some (.t (.str kind)), some (.t (.lst ((r0 :: rs0).map rdT))), some (.t (.str (padL 6 name ++ " "))), none, none, none, none] ∧ μ = [⟨.lst ((d.flatMap linesOf).map .str ++ (d'.map (lineOf name)).map .str), false, false⟩]) ⟨[], r0 :: rs0, rfl, rfl, rfl, by simp⟩ ?_ ?_
        · rintro x xs _ _ ⟨d', l', e, hd', rfl, rfl⟩
          cases l' with
          | nil => cases e
          | cons m l' =>
            obtain ⟨rfl, rfl⟩ := List.cons.inj e
            have hm : RdOk m := hrd m (by rw [hd']; simp)
            obtain ⟨q1, q2, q3, q4, q5, q6⟩ := lnOk (r := m) hs.name hm
            have hml : m.1.length ≤ 100000 := by have := hm.1.2.1; omega
            have hf1 : (ftext m.2.1).length ≤ 100000 := by have := ftext_len hm.2.1; omega
            have hf2 : (ftext m.2.2).length ≤ 100000 := by have := ftext_len hm.2.2; omega
            have hll : ((d.flatMap linesOf).map T.str ++ (d'.map (lineOf name)).map T.str).length < sizeLine := lt_szl (m := 54) (by
              rw [List.length_append, List.length_map, List.length_map, List.length_map]
              have := congrArg List.length hd'
              rw [List.length_append] at this
              have := hs.len
              have : (r0 :: rs0).length ≤ 6 := this
              omega) (by decide)
            refine s_body ?_
            show RQ (asg (L (n + 1)) (.tp [.nm 6, .nm 7]) (.t (.tup [.str m.1, .tup [frT m.2.1, frT m.2.2]])) _ _) _
            repeat walk_at "e"
            refine gath_cons ?_
            repeat walk_at "e"
            refine evC_2 [⟨.lst ((d.flatMap linesOf).map .str ++ (d'.map (lineOf name)).map .str), false, false⟩] (lawtext_c n hm.2.1) rfl (by decide) rfl ?_
            repeat walk_at "e"
            refine evC_2 [⟨.lst ((d.flatMap linesOf).map .str ++ (d'.map (lineOf name)).map .str), false, false⟩] (colR_c n hf1) rfl (by decide) rfl ?_
            repeat walk_at "e"
            refine gath_cons ?_
            repeat walk_at "e"
            refine evC_2 [⟨.lst ((d.flatMap linesOf).map .str ++ (d'.map (lineOf name)).map .str), false, false⟩] (lawtext_c n hm.2.2) rfl (by decide) rfl ?_
            repeat walk_at "e"
            refine evC_2 [⟨.lst ((d.flatMap linesOf).map .str ++ (d'.map (lineOf name)).map .str), false, false⟩] (colR_c n hf2) rfl (by decide) rfl ?_
            repeat walk_at "e"
            refine gath_nil ?_
            repeat walk_at "e"
            refine evC_2 [⟨.lst ((d.flatMap linesOf).map .str ++ (d'.map (lineOf name)).map .str), false, false⟩] (colL_c n hml) rfl (by decide) rfl ?_
            repeat walk_at "e"
            refine ⟨d' ++ [m], l', rfl, by rw [hd']; simp, rfl, ?_⟩
            rw [List.map_append, List.map_append, ← List.append_assoc]
            rfl
        · rintro _ _ ⟨d', l', e, hd', rfl, rfl⟩
          have : l' = [] := by cases l' with | nil => rfl | cons => cases e
          subst this
          rw [List.append_nil] at hd'
          subst hd'
          repeat walk_at "e"
          refine ⟨d ++ [⟨name, kind, r0 :: rs0⟩], l, rfl, by rw [hd]; simp, rfl, ?_⟩
          rw [List.flatMap_append, List.map_append]
          simp [linesOf]
  · rintro _ _ ⟨d, l, e, hd, rfl, rfl⟩
    have : l = [] := by cases l with | nil => rfl | cons => cases e
    subst this
    rw [List.append_nil] at hd
    subst hd
    repeat walk_at "e"
    rfl
end Sy.K89
end

section
set_option Elab.async false
set_option linter.all false
set_option maxRecDepth 100000
set_option maxHeartbeats 0
/-! K89Pd: the listing. -/
open Sy Sy.Wp
local macro_rules | `(tactic| walk_at "leaf") => `(tactic| first
  | (with_reducible assumption)
  | exact op2_add_i | exact op2_sub_i
  | exact op2_mul_i (by first | exact .inl (.inr ⟨by decide, by decide⟩) | exact .inl (.inl ⟨by decide, by decide⟩) | exact .inl (.inr ⟨by omega, by omega⟩) | exact .inl (.inl ⟨by omega, by omega⟩))
  | exact op2_mod_i (by first | decide | omega)
  | exact op2_div_i (by first | exact ⟨by decide, by decide⟩ | assumption)
  | exact op2_pow_i (by first | exact ⟨by decide, by decide, by decide⟩ | assumption)
  | exact cmp_eq_i | exact cmp_lt_i | exact cmp_le_i | exact cmp_gt_i | exact cmp_ge_i | exact cmp_ne_i | exact cmp_eq_s | exact cmp_ne_s | exact cmp_eq_b | exact cmp_ne_b
  | assumption
  | exact op2_add_s (by with_reducible assumption)
  | exact op2_add_l (by assumption)
  | exact op2_mul_l ⟨by first | decide | omega, by first | decide | omega, Nat.le_of_ble_eq_true rfl⟩
  | exact rfl)
local macro_rules | `(tactic| walk_at "e") => `(tactic| first
  | (with_reducible first
    | refine e_cst ?_ | refine e_op2 ?_ | refine e_cmp ?_ | refine e_idx ?_ | refine e_blt ?_ | refine e_bmt ?_ | refine e_call ?_ | refine e_att ?_ | refine e_isi ?_ | refine e_tup ?_ | refine e_lst ?_ | refine e_slc ?_ | refine e_mth ?_ | refine e_nt ?_ | refine e_neg ?_ | refine e_dct ?_ | refine e_ife ?_ | refine e_and ?_ | refine e_or ?_ | refine e_chn ?_ | refine e_new ?_ | refine e_fm ?_ | refine e_fst ?_ | refine e_comp ?_ | refine e_dcomp2 ?_ | refine e_lstg ?_ | refine e_newV0 ?_ | refine e_newV1 ?_ | refine e_lenO ?_ | refine s_forg ?_ | refine s_forc ?_
    | refine l_nil ?_ | refine l_cons ?_ | refine f_nil ?_ | refine f_cons ?_ | refine p_non ?_
    | refine t_cmp ?_ | refine t_nt ?_ | refine t_and ?_ | refine t_or ?_ | refine t_isi ?_ | refine t_call ?_ | refine t_idx ?_ | refine t_att ?_ | refine t_blt ?_ | refine t_chn ?_ | refine t_cst ?_
    | refine a_one ?_ | refine a_two ?_ | refine o_one ?_ | refine o_two ?_ | refine ta_nil ?_ | refine ta_cons ?_ | refine to_nil ?_ | refine to_cons ?_
    | refine i_seq ?_ | refine i_rng1 ?_ | refine i_enum ?_ | refine i_zip ?_ | refine i_items ?_ | refine cbody_s ?_ | refine frE_s ?_ | refine frP_s ?_ | refine obody_s ?_
    | refine gs_nil ?_ | refine gs_cons ?_ | refine gs_mcons ?_ | refine gs_mnil ?_ | refine g_sb ?_
    | refine fin_t ?_ | refine fin_f ?_ | refine fin_c ?_ | refine finA_t ?_ | refine finA_c ?_ | refine toT_t ?_ | refine toTs_n ?_ | refine toTs_c ?_
    | refine gg_nil ?_ | refine gg_cons ?_ | refine gg_yld ?_ | refine gg_ife ?_ | refine gg_for ?_ | refine gg_pl ?_ | refine s_body ?_ | refine out0_s ?_
    | refine ss_n ?_ | refine ss_c ?_ | refine s_asg ?_ | refine s_par ?_ | refine s_atr ?_ | refine s_app ?_ | refine s_ex ?_ | refine s_ret ?_ | refine s_ret0 ?_ | refine s_ife ?_ | refine s_for ?_ | refine s_whl ?_ | refine s_pas ?_ | refine s_brk ?_ | refine s_cnt ?_)
  | ((with_reducible apply e_var); exact rfl) | ((with_reducible apply t_var); exact rfl) | ((with_reducible apply e_glb); first | exact Sy.glb_at rfl | exact rfl)
  | ((with_reducible apply g_nm); exact Nat.le_of_ble_eq_true rfl) | ((with_reducible apply g_tp); exact rfl; exact rfl)
  | ((with_reducible apply toT_l); exact rfl) | ((with_reducible apply si_lst); exact rfl; exact rfl) | ((with_reducible apply si_dct); exact rfl; exact rfl; first | assumption | exact Nat.le_of_ble_eq_true rfl)
  | ((with_reducible apply p_ex); (rw [evP] <;> simp))
  | ((with_reducible apply ex3); exact rfl; exact rfl; walk_at "leaf")
  | ((with_reducible apply ex4); exact rfl; exact rfl; exact rfl)
  | ((with_reducible apply ex2); exact rfl; walk_at "leaf")
  | ((with_reducible apply exA); exact rfl; exact rfl; exact rfl)
  | ((with_reducible apply ex1); exact rfl)
  | ((with_reducible apply setC_s); exact rfl)
  | ((with_reducible refine And.intro ?_ ?_); first | (with_reducible exact rfl) | (with_reducible assumption) | assumption | exact Nat.le_of_ble_eq_true rfl | (show isLstC _ _ = true; exact rfl) | assumption)
  | ((with_reducible apply br_t); first | assumption | exact rfl)
  | ((with_reducible apply br_f); first | assumption | exact rfl)
  | ((with_reducible apply bf_t); first | assumption | exact rfl)
  | ((with_reducible apply bf_f); first | assumption | exact rfl)
  | refine ss_c ?_)
namespace Sy.K89
open PySem L2 Sy.Wp _root_.K89
theorem genL (n : Nat) (ts : List T) : (L (n + 2)).gen 0 ts = runG { L n with gen := fun _ _ => none } gf_listing.gd ts := rfl
theorem padL_fm {n : Nat} {x : Str} (h : x.length ≤ 100000) : fmT (.left n) (.str x) = some (padL n x) := if_pos (sL _ (by omega))
theorem padR_fm {n : Nat} {x : Str} (h : x.length ≤ 100000) : fmT (.right n) (.str x) = some (padR n x) := if_pos (sL _ (by omega))
theorem noline_eq (nm : Str) : Str.empty ++ padL 6 nm ++ (" -" : Str) = nolineOf nm := by
  rw [emp_app, spda]
  unfold nolineOf
  apply str_ext
  simp [app_toList]
theorem line_eq (nm : Str) (r : Rdg) : Str.empty ++ padL 6 nm ++ (" " : Str) ++ padL 6 r.1 ++ (" " : Str) ++ padR 9 (ftext r.2.1) ++ (" " : Str) ++ padR 9 (ftext r.2.2) = lineOf nm r := by
  rw [emp_app]; rfl
structure FnOk (nm : Str) (r : Rdg) : Prop where
  a1 : (Str.empty ++ padL 6 nm).length ≤ sizeLine
  a2 : (Str.empty ++ padL 6 nm ++ (" " : Str)).length ≤ sizeLine
  a3 : (Str.empty ++ padL 6 nm ++ (" " : Str) ++ padL 6 r.1).length ≤ sizeLine
  a4 : (Str.empty ++ padL 6 nm ++ (" " : Str) ++ padL 6 r.1 ++ (" " : Str)).length ≤ sizeLine
  a5 : (Str.empty ++ padL 6 nm ++ (" " : Str) ++ padL 6 r.1 ++ (" " : Str) ++ padR 9 (ftext r.2.1)).length ≤ sizeLine
  a6 : (Str.empty ++ padL 6 nm ++ (" " : Str) ++ padL 6 r.1 ++ (" " : Str) ++ padR 9 (ftext r.2.1) ++ (" " : Str)).length ≤ sizeLine
  a7 : (Str.empty ++ padL 6 nm ++ (" " : Str) ++ padL 6 r.1 ++ (" " : Str) ++ padR 9 (ftext r.2.1) ++ (" " : Str) ++ padR 9 (ftext r.2.2)).length ≤ sizeLine
theorem fnOk {nm : Str} {r : Rdg} (h : Nm nm) (hr : RdOk r) : FnOk nm r := by
  have b1 := padL_len (n := 6) (x := nm) (by have := h.2.1; omega) (by decide)
  have b2 := padL_len (n := 6) (x := r.1) (by have := hr.1.2.1; omega) (by decide)
  have b3 := padR_len (n := 9) (x := ftext r.2.1) (by have := ftext_len hr.2.1; omega) (by decide)
  have b4 := padR_len (n := 9) (x := ftext r.2.2) (by have := ftext_len hr.2.2; omega) (by decide)
  constructor <;> refine sL _ ?_ <;> simp only [emp_app, app_len, sp1] <;> omega
theorem listing_c (n : Nat) {shs : List Sht} {lo : List T} {ms : List Str} (h : ∀ s ∈ shs, ShOk s) : (L (n + 3)).gen 0 [rmO ⟨shs, lo, ms⟩] = some ((shs.flatMap linesOf).map .str) := by
  rw [genL (n + 1)]
  have hcall : ∀ j as, ({ L (n + 1) with gen := fun _ _ => none } : Ctx).call j as = (L (n + 1)).call j as := fun _ _ => rfl
  generalize ({ L (n + 1) with gen := fun _ _ => none } : Ctx) = Cg at hcall
  refine runG_s rfl ?_
  show GQ (evGs Cg g_listing [some (.t (.obj 1 [.lst (shs.map shO), .lst lo, .lst (ms.map .str)])), none, none, none, none]) _
  refine gg_cons ?_
  repeat walk_at "e"
  refine evC_2 [] ((hcall _ _).trans (sheets_c n (r := ⟨shs, lo, ms⟩))) rfl (by decide) rfl ?_
  repeat walk_at "e"
  refine forG_inv (acc := []) (fun xs acc ρ => ∃ d l, xs = l.map shO ∧ shs = d ++ l ∧ acc = (d.flatMap linesOf).map .str ∧ ρ = [some (.t (.obj 1 [.lst (shs.map shO), .lst lo, .lst (ms.map .str)])), none, none, none, none]) ⟨[], shs, rfl, rfl, rfl, rfl⟩ ?_ ?_
  · rintro x xs acc _ ⟨d, l, e, hd, rfl, rfl⟩
    cases l with
    | nil => cases e
    | cons s l =>
      obtain ⟨rfl, rfl⟩ := List.cons.inj e
      have hs : ShOk s := h s (by rw [hd]; simp)
      obtain ⟨name, kind, rds⟩ := s
      have hrd : ∀ r ∈ rds, RdOk r := hs.rds
      have h6 : rds.length ≤ 6 := hs.len
      have hnl : name.length ≤ 100000 := by have := hs.name.2.1; show name.length ≤ 100000; have : name.length ≤ 6 := this; omega
      have f1 := padL_fm (n := 6) hnl
      refine out0_s ?_
      show RQ (asg _ (.nm 1) (.t (.obj 0 [.str name, .str kind, .dct (ksOf rds) (vsOf rds)])) _ _) _
      repeat walk_at "e"
      refine evC_2 [] ((hcall _ _).trans (readings_c n (s := ⟨name, kind, rds⟩) (by show rds.length ≤ 100; omega))) rfl (by decide) rfl ?_
      repeat walk_at "e"
      refine forG_inv (acc := []) (fun xs acc ρ => ∃ d' l', xs = l'.map rdT ∧ rds = d' ++ l' ∧ acc = (d'.map (lineOf name)).map .str ∧ ρ = [some (.t (.obj 1 [.lst (shs.map shO), .lst lo, .lst (ms.map .str)])), some (.t (.obj 0 [.str name, .str kind, .dct (ksOf rds) (vsOf rds)])), some (.t (.lst (rds.map rdT))), none, none]) ⟨[], rds, rfl, rfl, rfl, rfl⟩ ?_ ?_
      · rintro x xs acc _ ⟨d', l', e, hd', rfl, rfl⟩
        cases l' with
        | nil => cases e
        | cons m l' =>
          obtain ⟨rfl, rfl⟩ := List.cons.inj e
          have hm : RdOk m := hrd m (by rw [hd']; simp)
          obtain ⟨q1, q2, q3, q4, q5, q6, q7⟩ := fnOk (r := m) hs.name hm
          have g1 := padL_fm (n := 6) (x := m.1) (by have := hm.1.2.1; omega)
          have g2 := padR_fm (n := 9) (x := ftext m.2.1) (by have := ftext_len hm.2.1; omega)
          have g3 := padR_fm (n := 9) (x := ftext m.2.2) (by have := ftext_len hm.2.2; omega)
          have hle := line_eq name m
          refine out0_s ?_
          show RQ (asg _ (.tp [.nm 3, .nm 4]) (.t (.tup [.str m.1, .tup [frT m.2.1, frT m.2.2]])) _ _) _
          repeat walk_at "e"
          refine evC_2 [] ((hcall _ _).trans (fractext_c n hm.2.1)) rfl (by decide) rfl ?_
          repeat walk_at "e"
          refine evC_2 [] ((hcall _ _).trans (fractext_c n hm.2.2)) rfl (by decide) rfl ?_
          repeat walk_at "e"
          refine ⟨d' ++ [m], l', rfl, by rw [hd']; simp, ?_, rfl⟩
          rw [hle, List.map_append, List.map_append]
          rfl
      · rintro acc _ ⟨d', l', e, hd', rfl, rfl⟩ ys e3
        have : l' = [] := by cases l' with | nil => rfl | cons => cases e
        subst this
        rw [List.append_nil] at hd'
        subst hd'
        rw [List.nil_append] at e3
        subst e3
        have tr : truT (.lst (rds.map rdT)) = some (!(rds.map rdT).isEmpty) := rfl
        repeat walk_at "e"
        refine ⟨fun hz => ?_, fun hz => ?_⟩
        · have hr : rds = [] := by
            cases rds with
            | nil => rfl
            | cons => simp at hz
          subst hr
          have hno := noline_eq name
          have q1 : (Str.empty ++ padL 6 name).length ≤ sizeLine := sL _ (by have := padL_len (n := 6) hnl (by decide); rw [emp_app]; omega)
          have q2 : (Str.empty ++ padL 6 name ++ (" -" : Str)).length ≤ sizeLine := sL _ (by have := padL_len (n := 6) hnl (by decide); rw [emp_app, spda, app_len, app_len, sp1, da1]; omega)
          repeat walk_at "e"
          refine ⟨d ++ [⟨name, kind, []⟩], l, rfl, by rw [hd]; simp, ?_, rfl⟩
          rw [hno, List.flatMap_append, List.map_append]
          rfl
        · have hr : rds ≠ [] := fun q => by subst q; simp at hz
          repeat walk_at "e"
          refine ⟨d ++ [⟨name, kind, rds⟩], l, rfl, by rw [hd]; simp, ?_, rfl⟩
          rw [List.flatMap_append, List.map_append]
          simp [linesOf, hr]
  · rintro acc _ ⟨d, l, e, hd, rfl, rfl⟩ ys e3
    have : l = [] := by cases l with | nil => rfl | cons => cases e
    subst this
    rw [List.append_nil] at hd
    rw [List.nil_append, ← hd] at e3
    subst e3
    repeat walk_at "e"
    simp
end Sy.K89
end

section
set_option Elab.async false
set_option linter.all false
set_option maxRecDepth 100000
set_option maxHeartbeats 0
/-! K89Pe: the law. -/
open Sy Sy.Wp
local macro_rules | `(tactic| walk_at "leaf") => `(tactic| first
  | assumption
  | exact op2_add_i | exact op2_sub_i
  | exact op2_mul_i (by first | exact .inl (.inr ⟨by decide, by decide⟩) | exact .inl (.inl ⟨by decide, by decide⟩) | exact .inl (.inr ⟨by omega, by omega⟩) | exact .inl (.inl ⟨by omega, by omega⟩))
  | exact op2_mod_i (by first | decide | omega)
  | exact op2_div_i (by first | exact ⟨by decide, by decide⟩ | assumption)
  | exact op2_pow_i (by first | exact ⟨by decide, by decide, by decide⟩ | assumption)
  | exact cmp_eq_i | exact cmp_lt_i | exact cmp_le_i | exact cmp_gt_i | exact cmp_ge_i | exact cmp_ne_i | exact cmp_eq_s | exact cmp_ne_s | exact cmp_eq_b | exact cmp_ne_b
  | assumption
  | exact op2_add_s (by assumption)
  | exact op2_add_l (by assumption)
  | exact op2_mul_l ⟨by first | decide | omega, by first | decide | omega, Nat.le_of_ble_eq_true rfl⟩
  | exact rfl)
local macro_rules | `(tactic| walk_at "e") => `(tactic| first
  | (with_reducible first
    | refine e_cst ?_ | refine e_op2 ?_ | refine e_cmp ?_ | refine e_idx ?_ | refine e_blt ?_ | refine e_bmt ?_ | refine e_call ?_ | refine e_att ?_ | refine e_isi ?_ | refine e_tup ?_ | refine e_lst ?_ | refine e_slc ?_ | refine e_mth ?_ | refine e_nt ?_ | refine e_neg ?_ | refine e_dct ?_ | refine e_ife ?_ | refine e_and ?_ | refine e_or ?_ | refine e_chn ?_ | refine e_new ?_ | refine e_fm ?_ | refine e_fst ?_ | refine e_comp ?_ | refine e_dcomp2 ?_ | refine e_lstg ?_ | refine e_newV0 ?_ | refine e_newV1 ?_ | refine e_lenO ?_ | refine s_forg ?_ | refine s_forc ?_
    | refine l_nil ?_ | refine l_cons ?_ | refine f_nil ?_ | refine f_cons ?_ | refine p_non ?_
    | refine t_cmp ?_ | refine t_nt ?_ | refine t_and ?_ | refine t_or ?_ | refine t_isi ?_ | refine t_call ?_ | refine t_idx ?_ | refine t_att ?_ | refine t_blt ?_ | refine t_chn ?_ | refine t_cst ?_
    | refine a_one ?_ | refine a_two ?_ | refine o_one ?_ | refine o_two ?_ | refine ta_nil ?_ | refine ta_cons ?_ | refine to_nil ?_ | refine to_cons ?_
    | refine i_seq ?_ | refine i_rng1 ?_ | refine i_enum ?_ | refine i_zip ?_ | refine i_items ?_ | refine cbody_s ?_ | refine frE_s ?_ | refine frP_s ?_ | refine obody_s ?_
    | refine gs_nil ?_ | refine gs_cons ?_ | refine gs_mcons ?_ | refine gs_mnil ?_ | refine g_sb ?_
    | refine fin_t ?_ | refine fin_f ?_ | refine fin_c ?_ | refine finA_t ?_ | refine finA_c ?_ | refine toT_t ?_ | refine toTs_n ?_ | refine toTs_c ?_
    | refine gg_nil ?_ | refine gg_cons ?_ | refine gg_yld ?_ | refine gg_ife ?_ | refine gg_for ?_ | refine gg_pl ?_ | refine s_body ?_ | refine out0_s ?_
    | refine ss_n ?_ | refine ss_c ?_ | refine s_asg ?_ | refine s_par ?_ | refine s_atr ?_ | refine s_app ?_ | refine s_ex ?_ | refine s_ret ?_ | refine s_ret0 ?_ | refine s_ife ?_ | refine s_for ?_ | refine s_whl ?_ | refine s_pas ?_ | refine s_brk ?_ | refine s_cnt ?_)
  | ((with_reducible apply e_var); exact rfl) | ((with_reducible apply t_var); exact rfl) | ((with_reducible apply e_glb); first | exact Sy.glb_at rfl | exact rfl)
  | ((with_reducible apply g_nm); exact Nat.le_of_ble_eq_true rfl) | ((with_reducible apply g_tp); exact rfl; exact rfl)
  | ((with_reducible apply toT_l); exact rfl) | ((with_reducible apply si_lst); exact rfl; exact rfl) | ((with_reducible apply si_dct); exact rfl; exact rfl; first | assumption | exact Nat.le_of_ble_eq_true rfl)
  | ((with_reducible apply p_ex); (rw [evP] <;> simp))
  | ((with_reducible apply ex3); exact rfl; exact rfl; walk_at "leaf")
  | ((with_reducible apply ex4); exact rfl; exact rfl; exact rfl)
  | ((with_reducible apply ex2); exact rfl; walk_at "leaf")
  | ((with_reducible apply exA); exact rfl; exact rfl; exact rfl)
  | ((with_reducible apply ex1); exact rfl)
  | ((with_reducible apply setC_s); exact rfl)
  | ((with_reducible refine And.intro ?_ ?_); first | (with_reducible exact rfl) | exact Nat.le_of_ble_eq_true rfl | (show isLstC _ _ = true; exact rfl) | assumption)
  | ((with_reducible apply br_t); first | assumption | exact rfl)
  | ((with_reducible apply br_f); first | assumption | exact rfl)
  | ((with_reducible apply bf_t); first | assumption | exact rfl)
  | ((with_reducible apply bf_f); first | assumption | exact rfl)
  | refine ss_c ?_)
namespace Sy.K89
open PySem L2 Sy.Wp _root_.K89
theorem slc_to {xs : List Str} {k : Int} (h : 0 ≤ k) : slcT (.lst (xs.map .str)) none (some k) = some (.c (.lst ((xs.take k.toNat).map .str))) := by
  show some (Nw.c (.lst (cutL _ _ _))) = _
  rw [cutL_to h, List.map_take]
theorem slc_from {xs : List Str} {k : Int} (h : 0 ≤ k) : slcT (.lst (xs.map .str)) (some k) none = some (.c (.lst ((xs.drop k.toNat).map .str))) := by
  show some (Nw.c (.lst (cutL _ _ _))) = _
  rw [cutL_from h, List.map_drop]
def lawEnv (sc nm lb : List T) : Env := [some (.t (.lst sc)), some (.loc 0), some (.loc 1), none, none, none, none, some (.t (.lst nm)), some (.t (.lst lb)), none, none, none, none, none, none]
structure Drawn (labs : List Str) (s : Sht) : Prop where
  kind : s.kind ∈ kinds6
  rds : ∀ r ∈ s.rds, RdOk r
  nd : (s.rds.map (·.1)).Nodup
  len : s.rds.length ≤ 6
  sub : ∀ r ∈ s.rds, r.1 ∈ labs
theorem law_draw {C : Ctx} (hcall : ∀ j as, C.call j as = (L 11).call j as) {K : OK} {sc : List T} {nm labs : List Str} (hl1 : labs.length = 7) (hl2 : ∀ x ∈ labs, Nm x) (hl3 : labs.Nodup) {b0 : Cell} (hb0 : Bag b0) (hn : nm.length ≤ 4) {dr : List Nat} {it : It} {tg : Tg} {bd : List Sm}
    (e : b_law[3]? = some (.for_ dr it tg bd))
    (q : ∀ (b : Cell) (shs : List Sht), Bag b → shs.map Sht.name = nm → (∀ s ∈ shs, Drawn labs s) → K.nx (lawEnv sc (nm.map .str) (labs.map .str)) [⟨b, false, false⟩, ⟨.lst (shs.map shT), false, false⟩]) :
    OQ (evS C (.for_ dr it tg bd) (lawEnv sc (nm.map .str) (labs.map .str)) [⟨b0, false, false⟩, ⟨.lst [], false, false⟩]) K := by
  have e : _ = Sm.for_ dr it tg bd := Option.some.inj e
  rw [← e]
  unfold lawEnv at q ⊢
  repeat walk_at "e"
  refine forL_inv (fun xs ρ μ => ∃ (d l : List Str) (shs : List Sht) (b : Cell), xs = l.map .str ∧ nm = d ++ l ∧ shs.map Sht.name = d ∧ (∀ s ∈ shs, Drawn labs s) ∧ Bag b ∧ ρ = lawEnv sc (nm.map .str) (labs.map .str) ∧ μ = [⟨b, false, false⟩, ⟨.lst (shs.map shT), false, false⟩]) ⟨[], nm, [], b0, rfl, rfl, rfl, by simp, hb0, rfl, rfl⟩ ?_ ?_
  · rintro x xs _ _ ⟨d, l, shs, b, e, hd, hsn, hsd, hb, rfl, rfl⟩
    cases l with
    | nil => cases e
    | cons m l =>
      obtain ⟨rfl, rfl⟩ := List.cons.inj e
      unfold lawEnv
      obtain ⟨st, b1, e1, s0, s1, hb1⟩ := pull_c 10 hb (m := 7) (by decide) (by decide)
      obtain ⟨k, b2, e2, k0, k1, hb2⟩ := pull_c 10 hb1 (m := 6) (by decide) (by decide)
      have sl1 := slc_from (xs := labs) s0
      have sl2 := slc_to (xs := labs) s0
      have hal : ((labs.drop st.toNat).map T.str).length + ((labs.take st.toNat).map T.str).length ≤ sizeLine := le_szl (m := 14) (by
        rw [List.length_map, List.length_map, List.length_drop, List.length_take]; omega) (by decide)
      obtain ⟨ls, hls⟩ : ∃ ls, ls = (labs.drop st.toNat ++ labs.take st.toNat).take k.toNat := ⟨_, rfl⟩
      have sl3 : slcT (.lst ((labs.drop st.toNat).map .str ++ (labs.take st.toNat).map .str)) none (some k) = some (.c (.lst (ls.map .str))) := by
        rw [← List.map_append, slc_to k0, hls]
      have hll : ls.length ≤ 6 := by rw [hls, List.length_take]; omega
      have hsub : ∀ x ∈ ls, x ∈ labs := fun x hx => by
        rw [hls] at hx
        have hx := List.mem_of_mem_take hx
        rcases List.mem_append.mp hx with z | z
        · exact List.mem_of_mem_drop z
        · exact List.mem_of_mem_take z
      have hnd : ls.Nodup := by
        rw [hls]
        refine List.Nodup.sublist (List.take_sublist ..) ?_
        have : (labs.take st.toNat ++ labs.drop st.toNat).Nodup := by rw [List.take_append_drop]; exact hl3
        exact (List.perm_append_comm.nodup_iff).mp this
      refine s_body ?_
      repeat walk_at "e"
      refine evC_2 [⟨b1, false, false⟩, ⟨.lst (shs.map shT), false, false⟩] ((hcall _ _).trans e1) rfl (by decide) rfl ?_
      repeat walk_at "e"
      refine evC_2 [⟨b2, false, false⟩, ⟨.lst (shs.map shT), false, false⟩] ((hcall _ _).trans e2) rfl (by decide) rfl ?_
      repeat walk_at "e"
      refine gath_inv (acc := []) (fun xs acc μ => ∃ (d' l' : List Str) (rds : List Rdg) (b : Cell), xs = l'.map .str ∧ ls = d' ++ l' ∧ rds.map (·.1) = d' ∧ (∀ r ∈ rds, SpOk r.2) ∧ acc = rds.map rdT ∧ Bag b ∧ μ = [⟨b, false, false⟩, ⟨.lst (shs.map shT), false, false⟩]) ⟨[], ls, [], b2, rfl, rfl, rfl, by simp, rfl, hb2, rfl⟩ ?_ ?_
      · rintro x xs acc _ ⟨d', l', rds, b3, e, hd', hr, hok, rfl, hb3, rfl⟩
        cases l' with
        | nil => cases e
        | cons y l' =>
          obtain ⟨rfl, rfl⟩ := List.cons.inj e
          obtain ⟨f1, g1, b4, e4, ok4, hb4⟩ := somefrac_c 8 hb3
          obtain ⟨f2, g2, b5, e5, ok5, hb5⟩ := somefrac_c 8 hb4
          repeat walk_at "e"
          refine evC_2 [⟨b4, false, false⟩, ⟨.lst (shs.map shT), false, false⟩] ((hcall _ _).trans e4) rfl (by decide) rfl ?_
          repeat walk_at "e"
          refine evC_2 [⟨b5, false, false⟩, ⟨.lst (shs.map shT), false, false⟩] ((hcall _ _).trans e5) rfl (by decide) rfl ?_
          repeat walk_at "e"
          refine ⟨d' ++ [y], l', rds ++ [(y, ((f1, g1), (f2, g2)))], b5, rfl, by rw [hd']; simp, by rw [List.map_append, hr]; rfl, fun r hr => ?_, by rw [List.map_append]; rfl, hb5, rfl⟩
          rcases List.mem_append.mp hr with z | z
          · exact hok r z
          · rw [List.mem_singleton] at z
            subst z
            exact ⟨ok4, ok5⟩
      · rintro acc _ ⟨d', l', rds, b3, e, hd', hr, hok, rfl, hb3, rfl⟩ vs ev
        have : l' = [] := by cases l' with | nil => rfl | cons => cases e
        subst this
        rw [List.append_nil] at hd'
        rw [List.nil_append] at ev
        subst ev
        rw [← hd'] at hr
        have hrl : rds.length = ls.length := by rw [← hr, List.length_map]
        obtain ⟨kd, b6, e6, hk, hb6⟩ := kinds_c 8 hb3
        have hsl : (shs.map shT).length < sizeLine := lt_szl (m := 4) (by
          have := congrArg List.length hsn
          rw [List.length_map] at this
          rw [List.length_map, this]
          have := congrArg List.length hd
          rw [List.length_append] at this
          omega) (by decide)
        refine ⟨le_szl (m := 6) (by rw [List.length_map]; omega) (by decide), ?_⟩
        repeat walk_at "e"
        refine evC_2 [⟨b6, false, false⟩, ⟨.lst (shs.map shT), false, false⟩] ((hcall _ _).trans e6) rfl (by decide) rfl ?_
        repeat walk_at "e"
        refine ⟨d ++ [m], l, shs ++ [⟨m, kd, rds⟩], b6, rfl, by rw [hd]; simp, by rw [List.map_append, hsn]; rfl, fun s hs => ?_, hb6, rfl, by rw [List.map_append]; rfl⟩
        rcases List.mem_append.mp hs with z | z
        · exact hsd s z
        · rw [List.mem_singleton] at z
          subst z
          have hin : ∀ r ∈ rds, r.1 ∈ labs := fun r hr' => hsub _ (by rw [← hr]; exact List.mem_map.mpr ⟨r, hr', rfl⟩)
          exact ⟨hk, fun r hr' => ⟨hl2 _ (hin r hr'), hok r hr'⟩, by show (rds.map (·.1)).Nodup; rw [hr]; exact hnd, by show rds.length ≤ 6; omega, hin⟩
  · rintro _ _ ⟨d, l, shs, b, e, hd, hsn, hsd, hb, rfl, rfl⟩
    have : l = [] := by cases l with | nil => rfl | cons => cases e
    subst this
    rw [List.append_nil] at hd
    exact q b shs hb (hsn.trans hd.symm) hsd
end Sy.K89
end

section
set_option Elab.async false
set_option linter.all false
set_option maxRecDepth 100000
set_option maxHeartbeats 0
/-! K89Pf: the law, whole. -/
open Sy Sy.Wp
local macro_rules | `(tactic| walk_at "leaf") => `(tactic| first
  | assumption
  | exact op2_add_i | exact op2_sub_i
  | exact op2_mul_i (by first | exact .inl (.inr ⟨by decide, by decide⟩) | exact .inl (.inl ⟨by decide, by decide⟩) | exact .inl (.inr ⟨by omega, by omega⟩) | exact .inl (.inl ⟨by omega, by omega⟩))
  | exact op2_mod_i (by first | decide | omega)
  | exact op2_div_i (by first | exact ⟨by decide, by decide⟩ | assumption)
  | exact op2_pow_i (by first | exact ⟨by decide, by decide, by decide⟩ | assumption)
  | exact cmp_eq_i | exact cmp_lt_i | exact cmp_le_i | exact cmp_gt_i | exact cmp_ge_i | exact cmp_ne_i | exact cmp_eq_s | exact cmp_ne_s | exact cmp_eq_b | exact cmp_ne_b
  | assumption
  | exact op2_add_s (by assumption)
  | exact op2_add_l (by assumption)
  | exact op2_mul_l ⟨by first | decide | omega, by first | decide | omega, Nat.le_of_ble_eq_true rfl⟩
  | exact rfl)
local macro_rules | `(tactic| walk_at "e") => `(tactic| first
  | (with_reducible first
    | refine e_cst ?_ | refine e_op2 ?_ | refine e_cmp ?_ | refine e_idx ?_ | refine e_blt ?_ | refine e_bmt ?_ | refine e_call ?_ | refine e_att ?_ | refine e_isi ?_ | refine e_tup ?_ | refine e_lst ?_ | refine e_slc ?_ | refine e_mth ?_ | refine e_nt ?_ | refine e_neg ?_ | refine e_dct ?_ | refine e_ife ?_ | refine e_and ?_ | refine e_or ?_ | refine e_chn ?_ | refine e_new ?_ | refine e_fm ?_ | refine e_fst ?_ | refine e_comp ?_ | refine e_dcomp2 ?_ | refine e_lstg ?_ | refine e_newV0 ?_ | refine e_newV1 ?_ | refine e_lenO ?_ | refine s_forg ?_ | refine s_forc ?_
    | refine l_nil ?_ | refine l_cons ?_ | refine f_nil ?_ | refine f_cons ?_ | refine p_non ?_
    | refine t_cmp ?_ | refine t_nt ?_ | refine t_and ?_ | refine t_or ?_ | refine t_isi ?_ | refine t_call ?_ | refine t_idx ?_ | refine t_att ?_ | refine t_blt ?_ | refine t_chn ?_ | refine t_cst ?_
    | refine a_one ?_ | refine a_two ?_ | refine o_one ?_ | refine o_two ?_ | refine ta_nil ?_ | refine ta_cons ?_ | refine to_nil ?_ | refine to_cons ?_
    | refine i_seq ?_ | refine i_rng1 ?_ | refine i_enum ?_ | refine i_zip ?_ | refine i_items ?_ | refine cbody_s ?_ | refine frE_s ?_ | refine frP_s ?_ | refine obody_s ?_
    | refine gs_nil ?_ | refine gs_cons ?_ | refine gs_mcons ?_ | refine gs_mnil ?_ | refine g_sb ?_
    | refine fin_t ?_ | refine fin_f ?_ | refine fin_c ?_ | refine finA_t ?_ | refine finA_c ?_ | refine toT_t ?_ | refine toTs_n ?_ | refine toTs_c ?_
    | refine gg_nil ?_ | refine gg_cons ?_ | refine gg_yld ?_ | refine gg_ife ?_ | refine gg_for ?_ | refine gg_pl ?_ | refine s_body ?_ | refine out0_s ?_
    | refine ss_n ?_ | refine ss_c ?_ | refine s_asg ?_ | refine s_par ?_ | refine s_atr ?_ | refine s_app ?_ | refine s_ex ?_ | refine s_ret ?_ | refine s_ret0 ?_ | refine s_ife ?_ | refine s_for ?_ | refine s_whl ?_ | refine s_pas ?_ | refine s_brk ?_ | refine s_cnt ?_)
  | ((with_reducible apply e_var); exact rfl) | ((with_reducible apply t_var); exact rfl) | ((with_reducible apply e_glb); first | exact Sy.glb_at rfl | exact rfl)
  | ((with_reducible apply g_nm); exact Nat.le_of_ble_eq_true rfl) | ((with_reducible apply g_tp); exact rfl; exact rfl)
  | ((with_reducible apply toT_l); exact rfl) | ((with_reducible apply si_lst); exact rfl; exact rfl) | ((with_reducible apply si_dct); exact rfl; exact rfl; first | assumption | exact Nat.le_of_ble_eq_true rfl)
  | ((with_reducible apply p_ex); (rw [evP] <;> simp))
  | ((with_reducible apply ex3); exact rfl; exact rfl; walk_at "leaf")
  | ((with_reducible apply ex4); exact rfl; exact rfl; exact rfl)
  | ((with_reducible apply ex2); exact rfl; walk_at "leaf")
  | ((with_reducible apply exA); exact rfl; exact rfl; exact rfl)
  | ((with_reducible apply ex1); exact rfl)
  | ((with_reducible apply setC_s); exact rfl)
  | ((with_reducible refine And.intro ?_ ?_); first | (with_reducible exact rfl) | assumption | exact Nat.le_of_ble_eq_true rfl | (show isLstC _ _ = true; exact rfl) | assumption)
  | ((with_reducible apply br_t); first | assumption | exact rfl)
  | ((with_reducible apply br_f); first | assumption | exact rfl)
  | ((with_reducible apply bf_t); first | assumption | exact rfl)
  | ((with_reducible apply bf_f); first | assumption | exact rfl)
  | refine ss_c ?_)
namespace Sy.K89
open PySem L2 Sy.Wp _root_.K89
def end12 : List Sm := b_law.drop 4
theorem law_end {C : Ctx} (hcall : ∀ j as, C.call j as = (L 11).call j as) (hgen : ∀ j as, C.gen j as = (L 11).gen j as) {K : OK} {sc : List T} {nm labs : List Str} {shs : List Sht} {b : Cell} (hl1 : labs.length = 7) (hn : nm.length ≤ 4) (hsn : shs.map Sht.name = nm) (hr : RmOk shs labs)
    (q : ∀ μ, K.rt (.t (.bl true)) μ) :
    OQ (evSs C (b_law.drop 4) (lawEnv sc (nm.map .str) (labs.map .str)) [⟨b, false, false⟩, ⟨.lst (shs.map shT), false, false⟩]) K := by
  obtain ⟨lo, e1⟩ := room_c 3 hr
  have e2 := lines_c 9 hr
  have e3 := listing_c 8 (lo := lo) (ms := sortS labs) hr.ok
  obtain ⟨lines, hli⟩ : ∃ lines, lines = shs.flatMap linesOf := ⟨_, rfl⟩
  rw [← hli] at e2 e3
  have hll : lines.length ≤ 48 := by
    have := lines_len hr.ok
    have := hr.ln
    rw [hli]; omega
  have hg : C.gen 0 [rmO ⟨shs, lo, sortS labs⟩] = some (lines.map .str) := (hgen _ _).trans e3
  have hgl : (lines.map T.str).length < sizeLine := lt_szl (m := 48) (by rw [List.length_map]; exact hll) (by decide)
  have hsl : shs.length = nm.length := by rw [← hsn, List.length_map]
  unfold lawEnv
  show OQ (evSs C [_, _, _, _, _, _] _ _) _
  refine ss_c ?_
  refine OQ.cut (fun ρ μ => ρ = [some (.t (.lst sc)), some (.loc 0), some (.loc 1), none, some (.t (rmO ⟨shs, lo, sortS labs⟩)), none, none, some (.t (.lst (nm.map .str))), some (.t (.lst (labs.map .str))), none, none, none, none, none, none] ∧ μ = [⟨b, false, false⟩, ⟨.lst (shs.map shT), false, true⟩]) ?_ ?_
  · repeat walk_at "e"
    refine evC_2 [⟨b, false, false⟩, ⟨.lst (shs.map shT), false, true⟩] ((hcall _ _).trans e1) rfl (by decide) rfl ?_
    repeat walk_at "e"
    exact ⟨rfl, rfl⟩
  rintro _ _ ⟨rfl, rfl⟩
  refine ss_c ?_
  refine OQ.cut (fun ρ μ => ρ = [some (.t (.lst sc)), some (.loc 0), some (.loc 1), none, some (.t (rmO ⟨shs, lo, sortS labs⟩)), some (.t (.lst (lines.map .str))), none, some (.t (.lst (nm.map .str))), some (.t (.lst (labs.map .str))), none, none, none, none, none, none] ∧ μ = [⟨b, false, false⟩, ⟨.lst (shs.map shT), false, true⟩]) ?_ ?_
  · repeat walk_at "e"
    refine evC_2 [⟨b, false, false⟩, ⟨.lst (shs.map shT), false, true⟩] ((hcall _ _).trans e2) rfl (by decide) rfl ?_
    repeat walk_at "e"
    exact ⟨rfl, rfl⟩
  rintro _ _ ⟨rfl, rfl⟩
  refine ss_c ?_
  refine OQ.cut (fun ρ μ => ρ = [some (.t (.lst sc)), some (.loc 0), some (.loc 1), none, some (.t (rmO ⟨shs, lo, sortS labs⟩)), some (.t (.lst (lines.map .str))), none, some (.t (.lst (nm.map .str))), some (.t (.lst (labs.map .str))), none, none, none, some (.loc 2), some (.t (.int 0)), none] ∧ μ = [⟨b, false, false⟩, ⟨.lst (shs.map shT), false, true⟩, ⟨.lst (lines.map .str), false, false⟩]) ?_ ?_
  · repeat walk_at "e"
    refine ⟨_, hg, hgl, ?_⟩
    repeat walk_at "e"
    exact ⟨rfl, rfl⟩
  rintro _ _ ⟨rfl, rfl⟩
  refine ss_c ?_
  refine OQ.cut (fun ρ μ => ρ = [some (.t (.lst sc)), some (.loc 0), some (.loc 1), none, some (.t (rmO ⟨shs, lo, sortS labs⟩)), some (.t (.lst (lines.map .str))), none, some (.t (.lst (nm.map .str))), some (.t (.lst (labs.map .str))), none, none, none, some (.loc 2), some (.t (.int 0)), none] ∧ μ = [⟨b, false, false⟩, ⟨.lst (shs.map shT), false, true⟩, ⟨.lst (lines.map .str ++ [.non]), false, false⟩]) ?_ ?_
  · repeat walk_at "e"
    first | rfl | exact ⟨rfl, rfl⟩
  rintro _ _ ⟨rfl, rfl⟩
  refine ss_c ?_
  refine OQ.cut (fun ρ μ => ρ = [some (.t (.lst sc)), some (.loc 0), some (.loc 1), none, some (.t (rmO ⟨shs, lo, sortS labs⟩)), some (.t (.lst (lines.map .str))), none, some (.t (.lst (nm.map .str))), some (.t (.lst (labs.map .str))), none, none, none, some (.loc 2), some (.t (.int (lines.length : Nat))), none] ∧ μ = [⟨b, false, false⟩, ⟨.lst (shs.map shT), false, true⟩, ⟨.lst (lines.map .str ++ [.non]), false, false⟩]) ?_ ?_
  · repeat walk_at "e"
    refine ⟨_, hg, ?_⟩
    refine forL_inv (fun xs ρ μ => ∃ (d l : List Str), xs = l.map .str ∧ lines = d ++ l ∧ ρ = [some (.t (.lst sc)), some (.loc 0), some (.loc 1), none, some (.t (rmO ⟨shs, lo, sortS labs⟩)), some (.t (.lst (lines.map .str))), none, some (.t (.lst (nm.map .str))), some (.t (.lst (labs.map .str))), none, none, none, some (.loc 2), some (.t (.int (d.length : Nat))), none] ∧ μ = [⟨b, false, false⟩, ⟨.lst (shs.map shT), false, true⟩, ⟨.lst (lines.map .str ++ [.non]), false, false⟩]) ⟨[], lines, rfl, rfl, rfl, rfl⟩ ?_ ?_
    · rintro x xs _ _ ⟨d, l, e, hd, rfl, rfl⟩
      cases l with
      | nil => cases e
      | cons m l =>
        obtain ⟨rfl, rfl⟩ := List.cons.inj e
        have hdl : d.length < lines.length := by rw [hd, List.length_append, List.length_cons]; omega
        have cge : cmpT .ge (.int (d.length : Nat)) (.int ((lines.map T.str).length : Nat)) = some false := by
          show some (decide ((((lines.map T.str).length : Nat) : Int) ≤ (d.length : Nat))) = _
          rw [decide_eq_false (by rw [List.length_map]; omega)]
        have hix : idxT (.lst (lines.map .str)) (.int (d.length : Nat)) = some (.str m) := idx_l (by
          rw [atI_nn (by omega), Int.toNat_natCast, List.getElem?_map, hd, List.getElem?_append_right (Nat.le_refl _), Nat.sub_self]; rfl)
        refine s_body ?_
        repeat walk_at "e"
        refine evC_2 [⟨b, false, false⟩, ⟨.lst (shs.map shT), false, true⟩, ⟨.lst (lines.map .str ++ [.non]), false, false⟩] ((hcall _ _).trans (same_str 10 m)) rfl (by decide) rfl ?_
        repeat walk_at "e"
        refine ⟨d ++ [m], l, rfl, by rw [hd]; simp, ?_, rfl⟩
        have hz : ((d ++ [m]).length : Int) = (d.length : Int) + 1 := by simp
        rw [hz]
        rfl
    · rintro _ _ ⟨d, l, e, hd, rfl, rfl⟩
      have : l = [] := by cases l with | nil => rfl | cons => cases e
      subst this
      rw [List.append_nil] at hd
      subst hd
      exact ⟨rfl, rfl⟩
  rintro _ _ ⟨rfl, rfl⟩
  have ceq : cmpT .eq (.int (lines.length : Nat)) (.int ((lines.map T.str).length : Nat)) = some true := by
    rw [cmp_eq_i, decide_eq_true (by rw [List.length_map])]
  have hal : (lines.map T.str).length + ([T.non] : List T).length ≤ sizeLine := hgl
  have s1 : bltT .sorted_ [.lst (labs.map .str)] = some (.c (.lst ((sortS labs).map .str))) := by
    show (match strsOf (labs.map T.str) with | some ys => if (labs.map T.str).length < 64 then some (Nw.c (.lst ((sortS ys).map .str))) else none | none => none) = _
    rw [strs_map]
    exact if_pos (by rw [List.length_map]; omega)
  have f1 : (L 11).call 26 [.c (.lst (lines.map .str ++ [.non])), .t (.lst (lines.map .str ++ [.non]))] = .ok (.t (.bl true)) [(.lst (lines.map .str ++ [.non]), true)] := same_cel 10 (by rw [List.length_append, List.length_map, List.length_singleton]; omega) fun x hx => by
    rcases List.mem_append.mp hx with z | z
    · obtain ⟨y, _, rfl⟩ := List.mem_map.mp z
      exact same_str 9 y
    · rw [List.mem_singleton] at z
      subst z
      exact same_non 9
  have hsl7 : (sortS labs).length = 7 := by rw [(sortS_p labs).length_eq]; exact hl1
  have f2 : (L 11).call 26 [.t (.lst ((sortS labs).map .str)), .t (.lst ((sortS labs).map .str))] = .ok (.t (.bl true)) [] := same_lst 10 (by rw [List.length_map]; omega) fun x hx => by
    obtain ⟨y, _, rfl⟩ := List.mem_map.mp hx
    exact same_str 9 y
  have h0 : (0 : Int) ≤ (shs.length : Nat) := by omega
  have h62 : ((shs.length : Nat) : Int) < 2 ^ 62 := by omega
  have ceq2 : cmpT .eq (.int (shs.length : Nat)) (.int ((nm.map T.str).length : Nat)) = some true := by
    rw [cmp_eq_i, decide_eq_true (by rw [List.length_map, hsl])]
  repeat walk_at "e"
  refine evC_2 [⟨b, false, false⟩, ⟨.lst (shs.map shT), false, true⟩, ⟨.lst (lines.map .str ++ [.non]), false, true⟩] ((hcall _ _).trans f1) rfl (by decide) rfl ?_
  repeat walk_at "e"
  refine evC_2 [⟨b, false, false⟩, ⟨.lst (shs.map shT), false, true⟩, ⟨.lst (lines.map .str ++ [.non]), false, true⟩] ((hcall _ _).trans (marks_c 10 (r := ⟨shs, lo, sortS labs⟩))) rfl (by decide) rfl ?_
  repeat walk_at "e"
  refine evC_2 [⟨b, false, false⟩, ⟨.lst (shs.map shT), false, true⟩, ⟨.lst (lines.map .str ++ [.non]), false, true⟩] ((hcall _ _).trans f2) rfl (by decide) rfl ?_
  repeat walk_at "e"
  refine evC_2 [⟨b, false, false⟩, ⟨.lst (shs.map shT), false, true⟩, ⟨.lst (lines.map .str ++ [.non]), false, true⟩] ((hcall _ _).trans (rlen_c 10 (r := ⟨shs, lo, sortS labs⟩))) rfl (by decide) rfl ?_
  refine finA_t ?_
  refine ⟨(shs.length : Nat), rfl, h0, h62, ?_⟩
  repeat walk_at "e"
  exact q _
end Sy.K89
end

section
set_option Elab.async false
set_option linter.all false
set_option maxRecDepth 100000
set_option maxHeartbeats 0
/-! K89Pg: the plain law and the statement. -/
open Sy Sy.Wp
local macro_rules | `(tactic| walk_at "leaf") => `(tactic| first
  | assumption
  | exact op2_add_i | exact op2_sub_i
  | exact op2_mul_i (by first | exact .inl (.inr ⟨by decide, by decide⟩) | exact .inl (.inl ⟨by decide, by decide⟩) | exact .inl (.inr ⟨by omega, by omega⟩) | exact .inl (.inl ⟨by omega, by omega⟩))
  | exact op2_mod_i (by first | decide | omega)
  | exact op2_div_i (by first | exact ⟨by decide, by decide⟩ | assumption)
  | exact op2_pow_i (by first | exact ⟨by decide, by decide, by decide⟩ | assumption)
  | exact cmp_eq_i | exact cmp_lt_i | exact cmp_le_i | exact cmp_gt_i | exact cmp_ge_i | exact cmp_ne_i | exact cmp_eq_s | exact cmp_ne_s | exact cmp_eq_b | exact cmp_ne_b
  | assumption
  | exact op2_add_s (by assumption)
  | exact op2_add_l (by assumption)
  | exact op2_mul_l ⟨by first | decide | omega, by first | decide | omega, Nat.le_of_ble_eq_true rfl⟩
  | exact rfl)
local macro_rules | `(tactic| walk_at "e") => `(tactic| first
  | (with_reducible first
    | refine e_cst ?_ | refine e_op2 ?_ | refine e_cmp ?_ | refine e_idx ?_ | refine e_blt ?_ | refine e_bmt ?_ | refine e_call ?_ | refine e_att ?_ | refine e_isi ?_ | refine e_tup ?_ | refine e_lst ?_ | refine e_slc ?_ | refine e_mth ?_ | refine e_nt ?_ | refine e_neg ?_ | refine e_dct ?_ | refine e_ife ?_ | refine e_and ?_ | refine e_or ?_ | refine e_chn ?_ | refine e_new ?_ | refine e_fm ?_ | refine e_fst ?_ | refine e_comp ?_ | refine e_dcomp2 ?_ | refine e_lstg ?_ | refine e_newV0 ?_ | refine e_newV1 ?_ | refine e_lenO ?_ | refine s_forg ?_ | refine s_forc ?_
    | refine l_nil ?_ | refine l_cons ?_ | refine f_nil ?_ | refine f_cons ?_ | refine p_non ?_
    | refine t_cmp ?_ | refine t_nt ?_ | refine t_and ?_ | refine t_or ?_ | refine t_isi ?_ | refine t_call ?_ | refine t_idx ?_ | refine t_att ?_ | refine t_blt ?_ | refine t_chn ?_ | refine t_cst ?_
    | refine a_one ?_ | refine a_two ?_ | refine o_one ?_ | refine o_two ?_ | refine ta_nil ?_ | refine ta_cons ?_ | refine to_nil ?_ | refine to_cons ?_
    | refine i_seq ?_ | refine i_rng1 ?_ | refine i_enum ?_ | refine i_zip ?_ | refine i_items ?_ | refine cbody_s ?_ | refine frE_s ?_ | refine frP_s ?_ | refine obody_s ?_
    | refine gs_nil ?_ | refine gs_cons ?_ | refine gs_mcons ?_ | refine gs_mnil ?_ | refine g_sb ?_
    | refine fin_t ?_ | refine fin_f ?_ | refine fin_c ?_ | refine finA_t ?_ | refine finA_c ?_ | refine toT_t ?_ | refine toTs_n ?_ | refine toTs_c ?_
    | refine gg_nil ?_ | refine gg_cons ?_ | refine gg_yld ?_ | refine gg_ife ?_ | refine gg_for ?_ | refine gg_pl ?_ | refine s_body ?_ | refine out0_s ?_
    | refine ss_n ?_ | refine ss_c ?_ | refine s_asg ?_ | refine s_par ?_ | refine s_atr ?_ | refine s_app ?_ | refine s_ex ?_ | refine s_ret ?_ | refine s_ret0 ?_ | refine s_ife ?_ | refine s_for ?_ | refine s_whl ?_ | refine s_pas ?_ | refine s_brk ?_ | refine s_cnt ?_)
  | ((with_reducible apply e_var); exact rfl) | ((with_reducible apply t_var); exact rfl) | ((with_reducible apply e_glb); first | exact Sy.glb_at rfl | exact rfl)
  | ((with_reducible apply g_nm); exact Nat.le_of_ble_eq_true rfl) | ((with_reducible apply g_tp); exact rfl; exact rfl)
  | ((with_reducible apply toT_l); exact rfl) | ((with_reducible apply si_lst); exact rfl; exact rfl) | ((with_reducible apply si_dct); exact rfl; exact rfl; first | assumption | exact Nat.le_of_ble_eq_true rfl)
  | ((with_reducible apply p_ex); (rw [evP] <;> simp))
  | ((with_reducible apply ex3); exact rfl; exact rfl; walk_at "leaf")
  | ((with_reducible apply ex4); exact rfl; exact rfl; exact rfl)
  | ((with_reducible apply ex2); exact rfl; walk_at "leaf")
  | ((with_reducible apply exA); exact rfl; exact rfl; exact rfl)
  | ((with_reducible apply ex1); exact rfl)
  | ((with_reducible apply setC_s); exact rfl)
  | ((with_reducible refine And.intro ?_ ?_); first | (with_reducible exact rfl) | assumption | exact Nat.le_of_ble_eq_true rfl | (show isLstC _ _ = true; exact rfl) | assumption)
  | ((with_reducible apply br_t); first | assumption | exact rfl)
  | ((with_reducible apply br_f); first | assumption | exact rfl)
  | ((with_reducible apply bf_t); first | assumption | exact rfl)
  | ((with_reducible apply bf_f); first | assumption | exact rfl)
  | refine ss_c ?_)
namespace Sy.K89
open PySem L2 Sy.Wp _root_.K89
theorem law_c (ns : List Int) : ∃ r outs, (L 12).call 32 [.t (.lst (ns.map .int))] = .ok r outs ∧ r = .t (.bl true) := by
  rw [cl rfl]
  obtain ⟨b, e1, hb⟩ := start_c 10 ns
  obtain ⟨x4, b1, e2, h41, h42, h43, hb1⟩ := names_c 8 hb (m := 4) (by decide)
  obtain ⟨p, b2, e3, p0, p1, hb2⟩ := pull_c 10 hb1 (m := 5) (by decide) (by decide)
  obtain ⟨labs, b3, e4, hl1, hl2, hl3, hb3⟩ := names_c 8 hb2 (m := 7) (by decide)
  suffices h : ∀ C : Ctx, (∀ j as, C.call j as = (L 11).call j as) → (∀ j as, C.gen j as = (L 11).gen j as) → ∃ r outs, runD C f_law.fd [.t (.lst (ns.map .int))] = .ok r outs ∧ r = .t (.bl true) from h (L 11) (fun _ _ => rfl) fun _ _ => rfl
  intro C hcall hgen
  have sl : slcT (.lst (x4.map .str)) none (some p) = some (.c (.lst ((x4.take p.toNat).map .str))) := slc_to p0
  have hnl : (x4.take p.toNat).length ≤ 4 := by rw [List.length_take]; omega
  have hnd : (x4.take p.toNat).Nodup := List.Nodup.sublist (List.take_sublist ..) h43
  have hnm : ∀ x ∈ x4.take p.toNat, Nm x := fun x hx => h42 x (List.mem_of_mem_take hx)
  generalize x4.take p.toNat = nm at sl hnl hnd hnm
  refine runD_s rfl ?_
  show OQ (evSs C b_law [some (.t (.lst (ns.map .int))), none, none, none, none, none, none, none, none, none, none, none, none, none, none] []) _
  refine ss_c ?_
  refine OQ.cut (fun ρ μ => ρ = [some (.t (.lst (ns.map .int))), some (.loc 0), none, none, none, none, none, none, none, none, none, none, none, none, none] ∧ μ = [⟨b, false, false⟩]) ?_ ?_
  · repeat walk_at "e"
    refine evC_2 [] ((hcall _ _).trans e1) rfl (by decide) rfl ?_
    repeat walk_at "e"
    first | rfl | exact ⟨rfl, rfl⟩
  rintro _ _ ⟨rfl, rfl⟩
  refine ss_c ?_
  refine OQ.cut (fun ρ μ => ρ = [some (.t (.lst (ns.map .int))), some (.loc 0), none, none, none, none, none, some (.t (.lst (nm.map .str))), some (.t (.lst (labs.map .str))), none, none, none, none, none, none] ∧ μ = [⟨b3, false, false⟩]) ?_ ?_
  · repeat walk_at "e"
    refine evC_2 [⟨b1, false, false⟩] ((hcall _ _).trans e2) rfl (by decide) rfl ?_
    repeat walk_at "e"
    refine evC_2 [⟨b2, false, false⟩] ((hcall _ _).trans e3) rfl (by decide) rfl ?_
    repeat walk_at "e"
    refine evC_2 [⟨b3, false, false⟩] ((hcall _ _).trans e4) rfl (by decide) rfl ?_
    repeat walk_at "e"
    first | rfl | exact ⟨rfl, rfl⟩
  rintro _ _ ⟨rfl, rfl⟩
  refine ss_c ?_
  refine OQ.cut (fun ρ μ => ρ = lawEnv (ns.map .int) (nm.map .str) (labs.map .str) ∧ μ = [⟨b3, false, false⟩, ⟨.lst [], false, false⟩]) ?_ ?_
  · repeat walk_at "e"
    first | rfl | exact ⟨rfl, rfl⟩
  rintro _ _ ⟨rfl, rfl⟩
  refine ss_c ?_
  refine law_draw hcall hl1 hl2 hl3 hb3 hnl rfl fun b' shs hb' hsn hsd => ?_
  refine law_end hcall hgen hl1 hnl hsn ?_ fun μ => ?_
  · exact {
      ok := fun s hs => ⟨hnm _ (by rw [← hsn]; exact List.mem_map.mpr ⟨s, hs, rfl⟩), (hsd s hs).kind, (hsd s hs).rds, (hsd s hs).nd, (hsd s hs).len⟩
      nd := by rw [hsn]; exact hnd
      ln := by have : shs.length = nm.length := by rw [← hsn, List.length_map]
               omega
      mok := hl2
      mnd := hl3
      mln := by omega
      sub := fun s hs => (hsd s hs).sub }
  · exact ⟨_, _, rfl, rfl⟩
theorem plain : _root_.K89.Plain := fun ns _ => by
  obtain ⟨r, outs, e, rfl⟩ := law_c ns
  exact ⟨outs, e⟩
end Sy.K89
theorem PySem.Challenge.cw_lostland_k89_listing_of_rooms_holds : PySem.Challenge.rw_lostland_k89_listing_of_rooms.Holds := by
  exact K89.holds Sy.K89.plain
end

